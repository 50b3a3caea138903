import PyProof.Rows.All
import Wide.All
import OpenK.AllK
import Wide.FinOn
import Lean
import PySem.Challenge.RW_no0419_01
set_option genSizeOf false
set_option genSizeOfSpec false
set_option genInjectivity false
set_option maxRecDepth 100000
set_option Elab.async false
noncomputable section
namespace Mini
inductive MV where
  | none
  | bool (b : Bool)
  | int (i : Int)
  | bytes (l : List Nat)
  | tup (l : List MV)
  | list (l : List MV)
  | inst (c : Nat) (l : List MV)
  | obj (a : Nat)
  deriving Inhabited
noncomputable def MV.none? (v : MV) : Option Unit := match v with | .none => some () | _ => Option.none
noncomputable def MV.bool? (v : MV) : Option Bool := match v with | .bool b => some b | _ => Option.none
noncomputable def MV.int? (v : MV) : Option Int := match v with | .int i => some i | _ => Option.none
noncomputable def MV.bytes? (v : MV) : Option (List Nat) := match v with | .bytes l => some l | _ => Option.none
noncomputable def MV.tup? (v : MV) : Option (List MV) := match v with | .tup l => some l | _ => Option.none
noncomputable def MV.list? (v : MV) : Option (List MV) := match v with | .list l => some l | _ => Option.none
noncomputable def MV.inst? (v : MV) : Option (Nat × List MV) := match v with | .inst c l => some (c, l) | _ => Option.none
noncomputable def MV.obj? (v : MV) : Option Nat := match v with | .obj a => some a | _ => Option.none
mutual
noncomputable def eqv : MV → MV → Bool
  | .none, w => w.none?.isSome
  | .bool a, w => w.bool?.any (a == ·)
  | .int a, w => w.int?.any fun b => decide (a = b)
  | .bytes a, w => w.bytes?.any (a == ·)
  | .tup a, w => w.tup?.any (eqvs a)
  | .list a, w => w.list?.any (eqvs a)
  | .inst _ _, _ => false
  | .obj _, _ => false
noncomputable def eqvs : List MV → List MV → Bool
  | [], m => m.isEmpty
  | a :: l, m => m.head?.any (eqv a) && eqvs l m.tail
end
noncomputable def plain : Nat → MV → Bool
  | _, .none | _, .bool _ | _, .int _ | _, .bytes _ => true
  | n + 1, .tup l | n + 1, .list l => l.all (plain n)
  | _, _ => false
inductive LV where
  | un
  | val (v : MV)
  | acc (l : List MV)
  deriving Inhabited
noncomputable def LV.val? (v : LV) : Option MV := match v with | .val x => some x | _ => none
noncomputable def LV.acc? (v : LV) : Option (List MV) := match v with | .acc x => some x | _ => none
abbrev Loc := List LV
noncomputable def lget (l : Loc) (i : Nat) : LV := l.getD i .un
abbrev Flds := List (Nat × MV)
structure MObj where
  c : Nat
  fs : Flds
  deriving Inhabited
abbrev MH := List MObj
noncomputable def fget (f : Nat) : Flds → Option MV
  | [] => Option.none
  | (g, v) :: r => if g = f then some v else fget f r
noncomputable def fput (f : Nat) (v : MV) : Flds → Flds
  | [] => [(f, v)]
  | (g, w) :: r => if g = f then (g, v) :: r else (g, w) :: fput f v r
inductive Op where | add | sub | mul | fdiv | mod
inductive Cp where | eq | ne | lt | le | gt | ge
mutual
inductive ME where
  | bad
  | none | tt | ff
  | int (i : Nat)
  | neg (n : Nat)
  | bnil
  | gint (g : Nat) (i : Int)
  | var (i : Nat)
  | attr (e : ME) (f : Nat)
  | bin (o : Op) (a b : ME)
  | cmp (a : ME) (c : MCs)
  | isNone (e : ME)
  | notNone (e : ME)
  | and (es : MEs)
  | or (es : MEs)
  | not (e : ME)
  | ite (c : MT) (a b : ME)
  | idx (e i : ME)
  | sliceA (e : ME)
  | sliceL (e lo : ME)
  | sliceU (e hi : ME)
  | sliceLU (e lo hi : ME)
  | tup (es : MEs)
  | list (es : MEs)
  | comp (elt : ME) (x : Nat) (it : MI)
  | compIf (elt : ME) (x : Nat) (it : MI) (c : MT)
  | call (f : Nat) (es : MEs)
  | new (c : Nat) (es : MEs)
  | meth (e : ME) (m : Nat) (es : MEs)
  | len (e : ME)
  | min2 (a b : ME)
  | max2 (a b : ME)
  | max1 (e : ME)
  | tupleOf (e : ME)
  | bytesOf (e : ME)
  | accLast (i : Nat)
  | accIdx (i : Nat) (e : ME)
  | accLen (i : Nat)
  | key (e : ME) (f : Nat)
inductive MEs where
  | nil
  | cons (e : ME) (r : MEs)
inductive MCs where
  | one (o : Cp) (e : ME)
  | cons (o : Cp) (e : ME) (r : MCs)
inductive MT where
  | e (e : ME)
  | cmp (a : ME) (c : MCs)
  | isNone (e : ME)
  | notNone (e : ME)
  | not (t : MT)
  | and (ts : MTs)
  | or (ts : MTs)
  | acc (i : Nat)
inductive MTs where
  | nil
  | cons (t : MT) (r : MTs)
inductive MI where
  | range1 (e : ME)
  | range2 (a b : ME)
  | sorted (e : ME)
  | over (e : ME)
end
inductive HE where
  | none | tt | ff
  | int (i : Nat)
  | neg (n : Nat)
  | var (i : Nat)
  | notv (i : Nat)
  | pair (a b : HE)
inductive HS where
  | bad
  | assign (i : Nat) (e : HE)
  | ret (e : HE)
  | brk
mutual
inductive MS where
  | bad
  | assign (i : Nat) (e : ME)
  | unpack (is : List Nat) (e : ME)
  | setAttr (e : ME) (f : Nat) (v : ME)
  | setKey (e : ME) (f : Nat) (v : ME)
  | dictNew (i : Nat) (ks : List Nat) (es : MEs)
  | aug (i : Nat) (o : Op) (e : ME)
  | accNew (i : Nat) (es : MEs)
  | accCopy (i : Nat) (e : ME)
  | accApp (i : Nat) (e : ME)
  | freeze (i : Nat)
  | expr (e : ME)
  | ife (t : MT) (a b : MSs)
  | whil (n : Nat) (t : MT) (b : MSs)
  | forr (x : Nat) (it : MI) (b : MSs)
  | ret (e : ME)
  | brk
  | raise (c : Nat) (es : MEs)
  | tryy (b : MSs) (hs : MHs)
inductive MSs where
  | nil
  | cons (s : MS) (r : MSs)
inductive MHs where
  | nil
  | cons (cs : List Nat) (b : List HS) (r : MHs)
end
inductive RS (α : Type) where
  | ok (a : α) (H : MH)
  | ex (c : Nat) (H : MH)
  | bad
noncomputable def RS.bind {α β : Type} : RS α → (α → MH → RS β) → RS β
  | .ok a H, f => f a H
  | .ex c H, _ => .ex c H
  | .bad, _ => .bad
inductive SR where
  | next (l : Loc) (H : MH)
  | brk (l : Loc) (H : MH)
  | ret (v : MV) (H : MH)
  | exm (c : Nat) (l : Loc) (H : MH)
  | exf (c : Nat) (l : Loc) (H : MH)
  | bad
structure MCls where
  record : Bool
  flds : List Nat
  init : Nat
  meths : List (Nat × Nat)
inductive FK where
  | body (b : MSs)
  | record (c : Nat) (es : MEs)
structure MF where
  npar : Nat
  nvar : Nat
  fk : FK
structure Prg where
  funs : List (Nat × MF)
  cls : List MCls
  sub : Nat → Nat → Bool
noncomputable def flook {α : Type} (f : Nat) : List (Nat × α) → Option α
  | [] => Option.none
  | (g, v) :: r => if g = f then some v else flook f r
noncomputable def intLim : Nat := 18446744073709551616 * 4294967296
noncomputable def intz {α : Type} (v w : MV) (f : Int → Int → Option α) : Option α := v.int?.bind fun a => w.int?.bind fun b => f a b
noncomputable def listz {α : Type} (v w : MV) (f : List MV → List MV → Option α) : Option α := v.list?.bind fun a => w.list?.bind fun b => f a b
noncomputable def guardO {α : Type} (b : Bool) (v : α) : Option α := if b then some v else none
noncomputable def addV (v w : MV) : Option MV := (intz v w fun a b => some (.int (a + b))).or (listz v w fun a b => guardO (decide (a.length + b.length ≤ 1000)) (.list (a ++ b)))
noncomputable def mulB (l : List Nat) (k : Int) : Option MV := guardO (decide (0 ≤ k ∧ k ≤ 1000 ∧ l.length = 1)) (.bytes (List.replicate k.toNat l).flatten)
noncomputable def mulL (l : List MV) (k : Int) : Option MV := if l.length = 1 then l.head?.bind fun v => guardO (decide (0 ≤ k ∧ k ≤ 1000)) (.list (List.replicate k.toNat v)) else none
noncomputable def mulV (v w : MV) : Option MV := (intz v w fun a b => guardO (decide (a.natAbs < 18446744073709551616)) (.int (a * b))).or (w.int?.bind fun k => (v.bytes?.bind fun l => mulB l k).or (v.list?.bind fun l => mulL l k))
noncomputable def binop (o : Op) (v w : MV) : Option MV := match o with
  | .add => addV v w
  | .sub => intz v w fun a b => some (.int (a - b))
  | .mul => mulV v w
  | .fdiv => intz v w fun a b => guardO (decide (b ≠ 0 ∧ b.natAbs < 1073741824)) (.int (a.fdiv b))
  | .mod => intz v w fun a b => guardO (decide (b ≠ 0)) (.int (a.fmod b))
noncomputable def cmpI (o : Cp) (a b : Int) : Bool := match o with
  | .eq => decide (a = b)
  | .ne => !decide (a = b)
  | .lt => decide (a < b)
  | .le => decide (a ≤ b)
  | .gt => decide (b < a)
  | .ge => decide (b ≤ a)
noncomputable def pair? (v : MV) : Option (Int × Int) := v.tup?.bind fun l => if l.length = 2 then l.head?.bind fun a => l.tail.head?.bind fun b => intz a b fun a b => some (a, b) else none
noncomputable def cmpO (o : Cp) (v w : MV) : Option Bool := match o with
  | .eq => guardO (plain 8 v && eqv v w) true
  | .ne => guardO (plain 8 v && eqv v w) false
  | .ge => (pair? v).bind fun p => (pair? w).bind fun q => some (decide (q.1 < p.1) || (decide (p.1 = q.1) && decide (q.2 ≤ p.2)))
  | _ => none
noncomputable def cmpop (o : Cp) (v w : MV) : Option Bool := (intz v w fun a b => some (cmpI o a b)).or (cmpO o v w)
noncomputable def truth : MV → Option Bool := MV.bool?
noncomputable def place (n : Nat) (i : Int) : Option Nat :=
  if 0 ≤ i then some i.toNat
  else guardO (decide (-(n : Int) ≤ i)) (i + n).toNat
noncomputable def bound (n : Nat) (i : Int) : Nat := (max 0 (min (if i < 0 then i + n else i) n)).toNat
noncomputable def cut (l : List MV) (lo hi : Nat) : List MV := (l.take hi).drop lo
noncomputable def intsOf : List MV → Option (List Int)
  | [] => some []
  | v :: r => v.int?.bind fun i => (intsOf r).map (i :: ·)
noncomputable def maxI : Int → List Int → Int
  | m, [] => m
  | m, x :: r => maxI (if m < x then x else m) r
noncomputable def rangeV (i j : Int) : List MV := (List.range (j - i).toNat).map fun (k : Nat) => .int (i + k)
noncomputable def MEs.isNil (r : MEs) : Bool := match r with | .nil => true | .cons _ _ => false
section
variable (P : Prg) (cf : Nat → List MV → MH → RS MV)
noncomputable def getAttr (v : MV) (f : Nat) (H : MH) : Option MV :=
  (v.inst?.bind fun p => P.cls[p.1]?.bind fun k => if k.record then p.2[k.flds.findIdx (· == f)]? else Option.none).or
  (v.obj?.bind fun a => H[a]?.bind fun o => P.cls[o.c]?.bind fun k => if k.record then Option.none else fget f o.fs)
noncomputable def clsOf (v : MV) (H : MH) : Option Nat := (v.inst?.map (·.1)).or (v.obj?.bind fun a => (H[a]?).map (·.c))
noncomputable def methOf (v : MV) (m : Nat) (H : MH) : Option Nat := (clsOf v H).bind fun c => P.cls[c]?.bind fun k => flook m k.meths
noncomputable def getKey (v : MV) (f : Nat) (H : MH) : Option MV := v.obj?.bind fun a => H[a]?.bind fun o => if o.c = P.cls.length then fget f o.fs else Option.none
noncomputable def setOk (c f : Nat) : Bool := (P.cls[c]?).any fun k => !k.record && k.flds.contains f
noncomputable def opt {α β : Type} (o : Option α) (f : α → RS β) : RS β := match o with
  | some a => f a
  | Option.none => .bad
noncomputable def mapR (g : MV → MH → RS (Option MV)) : List MV → MH → RS (List MV)
  | [], H => .ok [] H
  | v :: r, H => match g v H with
    | .ok (some w) H₁ => (mapR g r H₁).bind fun ws H₂ => .ok (w :: ws) H₂
    | .ok Option.none H₁ => mapR g r H₁
    | _ => .bad
noncomputable def isNoneV (v : MV) : Bool := v.none?.isSome
noncomputable def idxO (v j : MV) : Option MV := j.int?.bind fun j => (v.list?.bind fun xs => (place xs.length j).bind fun n => xs[n]?).or (v.tup?.bind fun xs => if 0 ≤ j then xs[j.toNat]? else Option.none)
noncomputable def lenO (v : MV) : Option MV := (v.list?.map fun xs => .int xs.length).or (v.bytes?.map fun xs => .int xs.length)
noncomputable def byteO (l : List MV) : Option MV := if l.length = 1 then l.head?.bind fun v => v.int?.bind fun i => guardO (decide (0 ≤ i ∧ i < 256)) (.bytes [i.toNat]) else Option.none
noncomputable def maxO (l : List MV) : Option MV := (intsOf l).bind fun is => is.head?.map fun i => .int (maxI i is.tail)
noncomputable def sliceO (v : MV) (lo hi : Nat → Option Nat) : Option MV := v.list?.bind fun xs => (lo xs.length).bind fun a => (hi xs.length).map fun b => .list (cut xs a b)
noncomputable def bd (i : MV) (n : Nat) : Option Nat := i.int?.map (bound n)
mutual
noncomputable def evalE : ME → Loc → MH → RS MV
  | .bad, _, _ => .bad
  | .none, _, H => .ok .none H
  | .tt, _, H => .ok (.bool true) H
  | .ff, _, H => .ok (.bool false) H
  | .int i, _, H => .ok (.int i) H
  | .neg n, _, H => .ok (.int (-(n : Int))) H
  | .bnil, _, H => .ok (.bytes []) H
  | .gint _ i, _, H => .ok (.int i) H
  | .var i, l, H => opt (lget l i).val? fun v => .ok v H
  | .attr e f, l, H => (evalE e l H).bind fun v H => opt (getAttr P v f H) fun w => .ok w H
  | .bin o a b, l, H => (evalE a l H).bind fun v H => (evalE b l H).bind fun w H => opt (binop o v w) fun r => .ok r H
  | .cmp a c, l, H => (evalE a l H).bind fun v H => (evalC v c l H).bind fun b H => .ok (.bool b) H
  | .isNone e, l, H => (evalE e l H).bind fun v H => .ok (.bool (isNoneV v)) H
  | .notNone e, l, H => (evalE e l H).bind fun v H => .ok (.bool (!isNoneV v)) H
  | .and es, l, H => evalB true es l H
  | .or es, l, H => evalB false es l H
  | .not e, l, H => (evalE e l H).bind fun v H => opt (truth v) fun b => .ok (.bool (!b)) H
  | .ite c a b, l, H => (evalT c l H).bind fun t H => if t then evalE a l H else evalE b l H
  | .idx e i, l, H => (evalE e l H).bind fun v H => (evalE i l H).bind fun j H => opt (idxO v j) fun w => .ok w H
  | .sliceA e, l, H => (evalE e l H).bind fun v H => opt (sliceO v (fun _ => some 0) some) fun w => .ok w H
  | .sliceL e lo, l, H => (evalE e l H).bind fun v H => (evalE lo l H).bind fun i H => opt (sliceO v (bd i) some) fun w => .ok w H
  | .sliceU e hi, l, H => (evalE e l H).bind fun v H => (evalE hi l H).bind fun i H => opt (sliceO v (fun _ => some 0) (bd i)) fun w => .ok w H
  | .sliceLU e lo hi, l, H => (evalE e l H).bind fun v H => (evalE lo l H).bind fun i H => (evalE hi l H).bind fun j H => opt (sliceO v (bd i) (bd j)) fun w => .ok w H
  | .tup es, l, H => (evalEs es l H).bind fun vs H => .ok (.tup vs) H
  | .list es, l, H => (evalEs es l H).bind fun vs H => .ok (.list vs) H
  | .comp elt x it, l, H => (evalI it l H).bind fun vs H => if 1000 < vs.length then .bad else
      (mapR (fun v H => (evalE elt (l.set x (.val v)) H).bind fun w H => .ok (some w) H) vs H).bind fun ws H => .ok (.list ws) H
  | .compIf elt x it c, l, H => (evalI it l H).bind fun vs H => if 1000 < vs.length then .bad else
      (mapR (fun v H => (evalT c (l.set x (.val v)) H).bind fun t H => if t then (evalE elt (l.set x (.val v)) H).bind fun w H => .ok (some w) H else .ok Option.none H) vs H).bind fun ws H => .ok (.list ws) H
  | .call f es, l, H => (evalEs es l H).bind fun vs H => cf f vs H
  | .new c es, l, H => (evalEs es l H).bind fun vs H => opt P.cls[c]? fun k =>
      if k.record then cf k.init vs H else
      (cf k.init (.obj H.length :: vs) (H ++ [⟨c, []⟩])).bind fun r H' => opt r.none? fun _ => .ok (.obj H.length) H'
  | .meth e m es, l, H => (evalE e l H).bind fun v H => opt (methOf P v m H) fun f => (evalEs es l H).bind fun vs H => cf f (v :: vs) H
  | .len e, l, H => (evalE e l H).bind fun v H => opt (lenO v) fun w => .ok w H
  | .min2 a b, l, H => (evalE a l H).bind fun v H => (evalE b l H).bind fun w H => opt (intz v w fun a b => some (.int (if b < a then b else a))) fun w => .ok w H
  | .max2 a b, l, H => (evalE a l H).bind fun v H => (evalE b l H).bind fun w H => opt (intz v w fun a b => some (.int (if a < b then b else a))) fun w => .ok w H
  | .max1 e, l, H => (evalE e l H).bind fun v H => opt (v.list?.bind maxO) fun w => .ok w H
  | .tupleOf e, l, H => (evalE e l H).bind fun v H => opt v.list? fun xs => .ok (.tup xs) H
  | .bytesOf e, l, H => (evalE e l H).bind fun v H => opt (v.list?.bind byteO) fun w => .ok w H
  | .accLast i, l, H => opt (lget l i).acc? fun xs => opt xs.getLast? fun w => .ok w H
  | .accIdx i e, l, H => opt (lget l i).acc? fun xs => (evalE e l H).bind fun j H => opt (j.int?.bind fun j => if 0 ≤ j then xs[j.toNat]? else Option.none) fun w => .ok w H
  | .accLen i, l, H => opt (lget l i).acc? fun xs => .ok (.int xs.length) H
  | .key e f, l, H => (evalE e l H).bind fun v H => opt (getKey P v f H) fun w => .ok w H
noncomputable def evalEs : MEs → Loc → MH → RS (List MV)
  | .nil, _, H => .ok [] H
  | .cons e r, l, H => (evalE e l H).bind fun v H => (evalEs r l H).bind fun vs H => .ok (v :: vs) H
noncomputable def evalB (a : Bool) : MEs → Loc → MH → RS MV
  | .nil, _, _ => .bad
  | .cons e r, l, H => if r.isNil then evalE e l H else (evalE e l H).bind fun v H => opt (truth v) fun b => if b = a then evalB a r l H else .ok v H
noncomputable def evalC (v : MV) : MCs → Loc → MH → RS Bool
  | .one o e, l, H => (evalE e l H).bind fun w H => opt (cmpop o v w) fun b => .ok b H
  | .cons o e r, l, H => (evalE e l H).bind fun w H => opt (cmpop o v w) fun b => if b then evalC w r l H else .ok false H
noncomputable def evalT : MT → Loc → MH → RS Bool
  | .e e, l, H => (evalE e l H).bind fun v H => opt (truth v) fun b => .ok b H
  | .cmp a c, l, H => (evalE a l H).bind fun v H => evalC v c l H
  | .isNone e, l, H => (evalE e l H).bind fun v H => .ok (isNoneV v) H
  | .notNone e, l, H => (evalE e l H).bind fun v H => .ok (!isNoneV v) H
  | .not t, l, H => (evalT t l H).bind fun b H => .ok (!b) H
  | .and ts, l, H => evalTs true ts l H
  | .or ts, l, H => evalTs false ts l H
  | .acc i, l, H => opt (lget l i).acc? fun xs => .ok (!xs.isEmpty) H
noncomputable def evalTs (a : Bool) : MTs → Loc → MH → RS Bool
  | .nil, _, H => .ok a H
  | .cons t r, l, H => (evalT t l H).bind fun b H => if b = a then evalTs a r l H else .ok (!a) H
noncomputable def evalI : MI → Loc → MH → RS (List MV)
  | .range1 e, l, H => (evalE e l H).bind fun v H => opt (v.int?.bind fun n => guardO (decide (n.natAbs ≤ 1000)) (rangeV 0 n)) fun xs => .ok xs H
  | .range2 a b, l, H => (evalE a l H).bind fun v H => (evalE b l H).bind fun w H => opt (intz v w fun i j => guardO (decide (i.natAbs ≤ 1000000 ∧ j.natAbs ≤ 1000000 ∧ j - i ≤ 1000)) (rangeV i j)) fun xs => .ok xs H
  | .sorted e, l, H => (evalE e l H).bind fun v H => opt (v.list?.bind fun xs => (intsOf xs).bind fun is => guardO (decide (is.length ≤ 1)) (is.map .int)) fun xs => .ok xs H
  | .over e, l, H => (evalE e l H).bind fun v H => opt v.list? fun xs => .ok xs H
end
noncomputable def toS {α : Type} (r : RS α) (l : Loc) (f : α → MH → SR) : SR := match r with
  | .ok a H => f a H
  | .ex c H => .exf c l H
  | .bad => .bad
noncomputable def optS {α : Type} (o : Option α) (f : α → SR) : SR := match o with
  | some a => f a
  | Option.none => .bad
noncomputable def okW {α : Type} (r : RS α) (f : α → MH → SR) : SR := match r with
  | .ok a H => f a H
  | _ => .bad
noncomputable def SR.then (r : SR) (f : Loc → MH → SR) : SR := match r with
  | .next l H => f l H
  | r => r
noncomputable def SR.turn (r : SR) (on : Loc → MH → SR) : SR := match r with
  | .next l H => on l H
  | .brk l H => .next l H
  | .ret v H => .ret v H
  | .exm c l H => .exm c l H
  | .exf .. => .bad
  | .bad => .bad
noncomputable def SR.catch (r : SR) (f : Nat → Loc → MH → SR) : SR := match r with
  | .exf c l H => f c l H
  | .exm .. => .bad
  | r => r
noncomputable def forM (x : Nat) (body : Loc → MH → SR) : List MV → Loc → MH → SR
  | [], l, H => .next l H
  | v :: r, l, H => (body (l.set x (.val v)) H).turn fun l H => forM x body r l H
noncomputable def whileM (test : Loc → MH → RS Bool) (body : Loc → MH → SR) : Nat → Loc → MH → SR
  | 0, _, _ => .bad
  | n + 1, l, H => okW (test l H) fun b H => if b then (body l H).turn fun l H => whileM test body n l H else .next l H
noncomputable def setAll : List Nat → List MV → Loc → Option Loc
  | [], [], l => some l
  | i :: is, v :: vs, l => setAll is vs (l.set i (.val v))
  | _, _, _ => Option.none
noncomputable def allInts : List MV → Bool
  | [] => true
  | v :: r => (v.int?.any fun i => decide (i.natAbs < intLim)) && allInts r
noncomputable def evalH : HE → Loc → Option MV
  | .none, _ => some .none
  | .tt, _ => some (.bool true)
  | .ff, _ => some (.bool false)
  | .int i, _ => some (.int i)
  | .neg n, _ => some (.int (-(n : Int)))
  | .var i, l => (lget l i).val?
  | .notv i, l => (lget l i).val?.bind fun v => v.bool?.map fun b => .bool (!b)
  | .pair a b, l => (evalH a l).bind fun v => (evalH b l).map fun w => .tup [v, w]
noncomputable def execH : List HS → Loc → MH → SR
  | [], l, H => .next l H
  | .bad :: _, _, _ => .bad
  | .assign i e :: r, l, H => optS (evalH e l) fun v => execH r (l.set i (.val v)) H
  | .ret e :: _, l, H => optS (evalH e l) fun v => .ret v H
  | .brk :: _, l, H => .brk l H
end
section
variable (P : Prg)
noncomputable def setO (o : MV) (f : Nat) (v : MV) (H : MH) : Option MH := o.obj?.bind fun a => H[a]?.bind fun ob => guardO (setOk P ob.c f && decide (ob.fs.length < 100)) (H.set a ⟨ob.c, fput f v ob.fs⟩)
noncomputable def setK (o : MV) (f : Nat) (v : MV) (H : MH) : Option MH := o.obj?.bind fun a => H[a]?.bind fun ob => guardO (decide (ob.c = P.cls.length ∧ ob.fs.length < 100) && (fget f ob.fs).isSome) (H.set a ⟨ob.c, fput f v ob.fs⟩)
noncomputable def raiseM (c : Nat) (r : RS (List MV)) (l : Loc) : SR := match r with
    | .ok vs H => if allInts vs then .exm c l H else .bad
    | _ => .bad
mutual
noncomputable def execS (cf : Nat → List MV → MH → RS MV) : MS → Loc → MH → SR
  | .bad, _, _ => .bad
  | .assign i e, l, H => toS (evalE P cf e l H) l fun v H => .next (l.set i (.val v)) H
  | .unpack is e, l, H => toS (evalE P cf e l H) l fun v H => optS (v.tup?.bind fun vs => setAll is vs l) fun l => .next l H
  | .setAttr e f v, l, H => toS (evalE P cf v l H) l fun v H => toS (evalE P cf e l H) l fun o H => optS (setO P o f v H) fun H => .next l H
  | .setKey e f v, l, H => toS (evalE P cf v l H) l fun v H => toS (evalE P cf e l H) l fun o H => optS (setK P o f v H) fun H => .next l H
  | .dictNew i ks es, l, H => toS (evalEs P cf es l H) l fun vs H => optS (guardO (decide (vs.length = ks.length ∧ ks.length ≤ 100 ∧ ks.Nodup)) ()) fun _ => .next (l.set i (.val (.obj H.length))) (H ++ [⟨P.cls.length, ks.zip vs⟩])
  | .aug i o e, l, H => optS (lget l i).val? fun w => toS (evalE P cf e l H) l fun v H => optS (intz w v fun a b => binop o (.int a) (.int b)) fun r => .next (l.set i (.val r)) H
  | .accNew i es, l, H => toS (evalEs P cf es l H) l fun vs H => .next (l.set i (.acc vs)) H
  | .accCopy i e, l, H => toS (evalE P cf e l H) l fun v H => optS (v.list?.bind fun vs => guardO (decide (vs.length ≤ 1000)) vs) fun vs => .next (l.set i (.acc vs)) H
  | .accApp i e, l, H => optS (lget l i).acc? fun vs => toS (evalE P cf e l H) l fun v H => optS (guardO (decide (vs.length < 1000)) (vs ++ [v])) fun vs => .next (l.set i (.acc vs)) H
  | .freeze i, l, H => optS (lget l i).acc? fun vs => .next (l.set i (.val (.list vs))) H
  | .expr e, l, H => toS (evalE P cf e l H) l fun _ H => .next l H
  | .ife t a b, l, H => toS (evalT P cf t l H) l fun c H => if c then execSs cf a l H else execSs cf b l H
  | .whil n t b, l, H => whileM (evalT P cf t) (execSs cf b) n l H
  | .forr x it b, l, H => toS (evalI P cf it l H) l fun vs H => forM x (execSs cf b) vs l H
  | .ret e, l, H => toS (evalE P cf e l H) l fun v H => .ret v H
  | .brk, l, H => .brk l H
  | .raise c es, l, H => raiseM c (evalEs P cf es l H) l
  | .tryy b hs, l, H => (execSs cf b l H).catch fun c l H => execHs c hs l H
noncomputable def execSs (cf : Nat → List MV → MH → RS MV) : MSs → Loc → MH → SR
  | .nil, l, H => .next l H
  | .cons s r, l, H => (execS cf s l H).then fun l H => execSs cf r l H
noncomputable def execHs (c : Nat) : MHs → Loc → MH → SR
  | .nil, _, _ => .bad
  | .cons cs b r, l, H => if cs.any (P.sub c) then execH b l H else execHs c r l H
end
noncomputable def endF : SR → RS MV
  | .next _ H => .ok .none H
  | .ret v H => .ok v H
  | .exm c _ H => .ex c H
  | _ => .bad
noncomputable def recM (c : Nat) (r : RS (List MV)) : RS MV := match r with
  | .ok vs H => .ok (.inst c vs) H
  | _ => .bad
noncomputable def runF (cf : Nat → List MV → MH → RS MV) (m : MF) (args : List MV) (H : MH) : RS MV :=
  match m.fk with
  | .body b => if args.length = m.npar then endF (execSs P cf b (args.map .val ++ List.replicate (m.nvar - m.npar) .un) H) else .bad
  | .record c es => if args.length + 1 = m.npar then recM c (evalEs P cf es (.un :: args.map .val) H) else .bad
noncomputable def callN : Nat → Nat → List MV → MH → RS MV
  | 0, _, _, _ => .bad
  | d + 1, f, args, H => match flook f P.funs with
    | some m => runF P (callN d) m args H
    | Option.none => .bad
end
end Mini
end
noncomputable section
namespace Mini
open PySem PySem.W PySem.Calls PyProof.Rows
inductive GV where
  | fn (f : Nat)
  | cls (c : Nat)
  | exc (c : Nat)
  | gint (g : Nat) (i : Int)
  | blt (k : Nat)
  deriving DecidableEq
structure Tie where
  K : Frag
  names : List Str
  gl : List (Str × GV)
  cadr : List Addr
  eadr : List Addr
  fadr : List (Nat × Addr)
  hs : Str → Int
abbrev ZM := Addr → Option Obj
inductive MC where
  | ex (o : Obj)
  | st (o : Obj)
  | fr (m : Str → Option Value)
  | ce (v : Option Value)
abbrev MU := Addr → Option MC
abbrev PH := List (Addr × Addr)
noncomputable def MC.isSt (c : MC) : Bool := match c with | .st _ => true | _ => false
noncomputable def MC.is (o : Obj) (c : MC) : Prop := match c with
  | .ex o' => o = o'
  | .st o' => o = o'
  | .fr m => ∃ es ep, o.data = .dict es ep ∧ StrKeys es ∧ ∀ name, nsFind es name = m name
  | .ce v => o.data = .cell v
noncomputable def MC.at (h : Heap) (a : Addr) (c : MC) : Prop := ∃ o, h.get? a = some o ∧ c.is o
noncomputable def upd {α : Type} (f : Addr → Option α) (a : Addr) (v : Option α) : Addr → Option α := fun b => if b = a then v else f b
theorem upd_self {α : Type} (f : Addr → Option α) (a : Addr) (v : Option α) : upd f a v a = v := if_pos rfl
theorem upd_ne {α : Type} {f : Addr → Option α} {a b : Addr} {v : Option α} (h : b ≠ a) : upd f a v b = f b := if_neg h
theorem ne_none {α : Type} {f : Addr → Option α} {a b : Addr} {x : α} (h : f a = none) (e : f b = some x) : b ≠ a := fun q => nomatch (q ▸ e : f a = some x).symm.trans h
theorem upd_cases {α : Type} {f : Addr → Option α} {a b : Addr} {v w : Option α} (h : upd f a v b = w) : (b = a ∧ v = w) ∨ (b ≠ a ∧ f b = w) :=
  if q : b = a then .inl ⟨q, (if_pos q).symm.trans h⟩ else .inr ⟨q, (if_neg q).symm.trans h⟩
theorem at_ex {h : Heap} {a : Addr} {o : Obj} (e : h.get? a = some o) : (MC.ex o).at h a := ⟨o, e, rfl⟩
theorem ex_at {h : Heap} {a : Addr} {o : Obj} : (MC.ex o).at h a → h.get? a = some o := fun ⟨_, e, q⟩ => q ▸ e
theorem st_at {h : Heap} {a : Addr} {o : Obj} : (MC.st o).at h a → h.get? a = some o := fun ⟨_, e, q⟩ => q ▸ e
theorem at_fr {h : Heap} {a : Addr} {m : Str → Option Value} : h.Ns a m → (MC.fr m).at h a := fun ⟨o, es, ep, e, r⟩ => ⟨o, e, es, ep, r⟩
theorem fr_at {h : Heap} {a : Addr} {m : Str → Option Value} : (MC.fr m).at h a → h.Ns a m := fun ⟨o, e, es, ep, r⟩ => ⟨o, es, ep, e, r⟩
theorem MC.at_to {h h' : Heap} {a : Addr} {c : MC} (k : ∀ o, h.get? a = some o → h'.get? a = some o) : c.at h a → c.at h' a := fun ⟨o, e, r⟩ => ⟨o, k o e, r⟩
theorem MC.at_lt {h : Heap} {a : Addr} {c : MC} : c.at h a → a < h.objs.size := fun ⟨_, e, _⟩ => Heap.lt_size e
structure Inv (Z : ZM) (Mu : MU) (h : Heap) : Prop where
  z : ∀ a o, Z a = some o → h.get? a = some o
  m : ∀ a c, Mu a = some c → c.at h a
  d : ∀ a c, Mu a = some c → Z a = none
namespace Inv
variable {Z : ZM} {Mu : MU} {h h' : Heap}
theorem free (I : Inv Z Mu h) {a : Addr} (n : h.objs.size ≤ a) : Z a = none ∧ Mu a = none :=
  ⟨Option.eq_none_iff_forall_ne_some.mpr fun o e => Nat.lt_irrefl _ (Nat.lt_of_lt_of_le (Heap.lt_size (I.z a o e)) n),
   Option.eq_none_iff_forall_ne_some.mpr fun o e => Nat.lt_irrefl _ (Nat.lt_of_lt_of_le (MC.at_lt (I.m a o e)) n)⟩
theorem setM (I : Inv Z Mu h) {a : Addr} {x : Option MC} (hz : Z a = none) (k : ∀ b o, b ≠ a → h.get? b = some o → h'.get? b = some o) (ha : ∀ c, x = some c → c.at h' a) : Inv Z (upd Mu a x) h' where
  z b o e := k b o (ne_none hz e) (I.z b o e)
  m b c e := (upd_cases e).elim (fun q => q.1 ▸ ha c q.2) fun q => MC.at_to (k b · q.1) (I.m b c q.2)
  d b c e := (upd_cases e).elim (fun q => q.1 ▸ hz) fun q => I.d b c q.2
theorem setZ (I : Inv Z Mu h) {a : Addr} {o : Obj} (hz : Z a = none) (k : ∀ b o, b ≠ a → h.get? b = some o → h'.get? b = some o) (ha : h'.get? a = some o) : Inv (upd Z a (some o)) (upd Mu a none) h' where
  z b x e := (upd_cases e).elim (fun q => by cases q.2; exact q.1 ▸ ha) fun q => k b x q.1 (I.z b x q.2)
  m b c e := (upd_cases e).elim (fun q => nomatch q.2) fun q => MC.at_to (k b · q.1) (I.m b c q.2)
  d b c e := (upd_cases e).elim (fun q => nomatch q.2) fun q => (upd_ne q.1).trans (I.d b c q.2)
theorem keeps (I : Inv Z Mu h) (k : ∀ b o, h.get? b = some o → h'.get? b = some o) : Inv Z Mu h' :=
  ⟨fun a o e => k a o (I.z a o e), fun a c e => MC.at_to (k a) (I.m a c e), I.d⟩
end Inv
abbrev tupOf (its : Array Value) : Obj := { cls := .type "tuple", data := .seq its }
inductive Ents (hs : Str → Int) : List Str → List Value → List DictEntry → Prop
  | nil : Ents hs [] [] []
  | cons {n ns v vs es} (t : Tok) : Ents hs ns vs es → Ents hs (n :: ns) (v :: vs) (⟨hs n, .str n t, v⟩ :: es)
noncomputable def nameOf (T : Tie) (f : Nat) : Str := T.names.getD f default
structure ClsOk (T : Tie) (k : MCls) (C : Addr) : Prop where
  plain : plainGet T.K C "" = true
  dict : hasDictIn T.K C = true
  makes : makesIn T.K C = true
  setattr : findIn T.K (.ref C) "__setattr__" = some (some (.builtin "object.__setattr__"))
  over : plainOver T.K C = true
  init : ∃ a, flook k.init T.fadr = some a ∧ findIn T.K (.ref C) "__init__" = some (some (.ref a)) ∧ isFn T.K (.ref a) = true
  flds : ∀ f ∈ k.flds, f < T.names.length ∧ (∃ a, findIn T.K (.ref C) (nameOf T f) = some a ∧ noGet T.K a = true) ∧ takerIn T.K C (nameOf T f) = some none
  nodup : k.flds.Nodup
  meths : ∀ m f, flook m k.meths = some f → m < T.names.length ∧ m ∉ k.flds ∧ ∃ a, flook f T.fadr = some a ∧ findIn T.K (.ref C) (nameOf T m) = some (some (.ref a)) ∧ isFn T.K (.ref a) = true ∧ keepIn T.K (.ref a) = true
noncomputable def bltV : Nat → Value
  | 0 => .builtin "len" | 1 => .builtin "min" | 2 => .builtin "max" | 3 => .type "tuple" | 4 => .type "bytes" | 5 => .type "range" | _ => .builtin "sorted"
structure Tied (P : Prg) (T : Tie) (H0 : Heap) : Prop where
  kin : T.K.In H0
  ng : ∃ mg mb, H0.Ns mainGlobals mg ∧ H0.Ns builtinsNs mb ∧ ∀ x : Str, x ≠ "__name__" → mb x = bootBuiltins x
  nolim : H0.NoLimit
  fn : ∀ x f, T.gl.lookup x = some (.fn f) → ∃ a, flook f T.fadr = some a ∧ nsIn T.K mainGlobals x = some (some (.ref a)) ∧ keepIn T.K (.ref a) = true
  cls : ∀ x c, T.gl.lookup x = some (.cls c) → ∃ C, T.cadr[c]? = some C ∧ nsIn T.K mainGlobals x = some (some (.ref C)) ∧ keepIn T.K (.ref C) = true
  exc : ∀ x c, T.gl.lookup x = some (.exc c) → ∃ C, T.eadr[c]? = some C ∧ nsIn T.K mainGlobals x = some (some (.ref C))
  gint : ∀ x g i, T.gl.lookup x = some (.gint g i) → ∃ t, nsIn T.K mainGlobals x = some (some (.int i t))
  blt : ∀ x k, T.gl.lookup x = some (.blt k) → x ≠ "__name__" ∧ nsIn T.K mainGlobals x = some none ∧ bootBuiltins x = some (bltV k)
  names : T.names.Nodup
  clsOk : ∀ (c : Nat) k, P.cls[c]? = some k → ∃ C, T.cadr[c]? = some C ∧ ClsOk T k C
structure ExcIn (P : Prg) (T : Tie) (H0 : Heap) (c : Nat) (C : Addr) (nm q : Str) (N : Addr) (bs bm : List Value) (hdct : Bool) (sn : List Str) (sub : List Value) (ab : Bool) (col : Option Bool) (dd : Option Addr) (k0 k1 k2 k3 k5 : Option Value) (newId B initId : String) (bmB : List Value) (mN : Str → Option Value) : Prop where
  at_ : H0.get? C = some (excClassObj nm q C N bs bm hdct sn sub ab col dd k0 k1 k2 k3 k5 newId)
  ns : H0.Ns N mN
  init : mN "__init__" = none
  tail : OwnTail H0 bmB bm
  base : ExcBaseFacts B newId initId bmB
  isExc : bm.contains (.type "BaseException") = true
  sub : ∀ d D, T.eadr[d]? = some D → (Value.ref C :: bm).contains (.ref D) = P.sub c d
noncomputable def NotInit (P : Prg) (f : Nat) : Prop := ∀ (ci : Nat) (k : MCls), P.cls[ci]? = some k → k.record = true → k.init ≠ f
structure Sys where
  prog : Program
  w : World
  P : Prg
  T : Tie
  H0 : Heap
  X : Tied P T H0
  EX : ∀ (c : Nat) (C : Addr), T.eadr[c]? = some C → ∃ nm q N bs bm hdct sn sub ab col dd k0 k1 k2 k3 k5 newId B initId bmB mN, ExcIn P T H0 c C nm q N bs bm hdct sn sub ab col dd k0 k1 k2 k3 k5 newId B initId bmB mN
  hs : ∀ n, T.hs n = PyData.keyHash w.params n
  recs : ∀ (cj : Nat) (k' : MCls), P.cls[cj]? = some k' → k'.record = false → NotInit P k'.init
  rmeth : ∀ (cj : Nat) (k' : MCls) (m f : Nat), P.cls[cj]? = some k' → flook m k'.meths = some f → NotInit P f
  rfun : ∀ (x : Str) (f : Nat), T.gl.lookup x = some (.fn f) → NotInit P f
abbrev Sys.M (Y : Sys) : Model := model Y.prog Y.w
section
variable (Y : Sys) (Z : ZM) (φ : PH)
mutual
noncomputable def VR : MV → Value → Prop
  | .none, v => v = .none
  | .bool b, v => v = .bool b
  | .int i, v => ∃ t, v = .int i t
  | .bytes l, v => ∃ t, v = .bytes (l.map UInt8.ofNat).toArray t ∧ (∀ x ∈ l, x < 256) ∧ l.length ≤ 10000000
  | .tup ms, v => ∃ a vs, v = .ref a ∧ Z a = some (tupOf vs.toArray) ∧ VRs ms vs ∧ ms.length ≤ 10000000
  | .list ms, v => ∃ a vs n, v = .ref a ∧ Z a = some (listOf vs.toArray n) ∧ VRs ms vs ∧ ms.length ≤ 10000000
  | .inst c ms, v => ∃ x dx k C es n vs, v = .ref x ∧ (Y.P.cls[c]? = some k ∧ k.record = true ∧ Y.T.cadr[c]? = some C ∧ Z x = some (instObj C dx) ∧ Z dx = some (dictOf es n)) ∧ Ents Y.T.hs (k.flds.map (nameOf Y.T)) vs es ∧ VRs ms vs
  | .obj i, v => ∃ x dx, v = .ref x ∧ φ[i]? = some (x, dx)
noncomputable def VRs : List MV → List Value → Prop
  | [], vs => vs = []
  | m :: ms, vs => ∃ v r, vs = v :: r ∧ VR m v ∧ VRs ms r
end
end
noncomputable def ZLe (Z Z' : ZM) : Prop := ∀ a o, Z a = some o → Z' a = some o
noncomputable def PLe (φ φ' : PH) : Prop := ∀ (i : Nat) p, φ[i]? = some p → φ'[i]? = some p
theorem ZLe.refl {Z : ZM} : ZLe Z Z := fun _ _ e => e
theorem PLe.refl {φ : PH} : PLe φ φ := fun _ _ e => e
theorem PLe.append {φ : PH} {l : PH} : PLe φ (φ ++ l) := fun i p e => by
  rw [List.getElem?_append_left (List.getElem?_eq_some_iff.mp e).1]; exact e
theorem ZLe.upd {Z : ZM} {a : Addr} {o : Option Obj} (h : Z a = none) : ZLe Z (Mini.upd Z a o) := fun b x e => (upd_ne (ne_none h e)).trans e
section
variable {Y : Sys} {Z Z' : ZM} {φ φ' : PH}
mutual
theorem VR.mono (z : ZLe Z Z') (p : PLe φ φ') : ∀ (m : MV) {v : Value}, VR Y Z φ m v → VR Y Z' φ' m v
  | .none, _, h => h
  | .bool _, _, h => h
  | .int _, _, h => h
  | .bytes _, _, h => h
  | .tup ms, _, ⟨a, vs, e, h, r, n⟩ => ⟨a, vs, e, z _ _ h, VRs.mono z p ms r, n⟩
  | .list ms, _, ⟨a, vs, k, e, h, r, n⟩ => ⟨a, vs, k, e, z _ _ h, VRs.mono z p ms r, n⟩
  | .inst _ ms, _, ⟨x, dx, k, C, es, n, vs, e, ⟨a, b, c, d, f⟩, g, r⟩ => ⟨x, dx, k, C, es, n, vs, e, ⟨a, b, c, z _ _ d, z _ _ f⟩, g, VRs.mono z p ms r⟩
  | .obj _, _, ⟨x, dx, e, h⟩ => ⟨x, dx, e, p _ _ h⟩
theorem VRs.mono (z : ZLe Z Z') (p : PLe φ φ') : ∀ (m : List MV) {v : List Value}, VRs Y Z φ m v → VRs Y Z' φ' m v
  | [], _, h => h
  | m :: ms, _, ⟨v, r, e, a, b⟩ => ⟨v, r, e, VR.mono z p m a, VRs.mono z p ms b⟩
end
theorem VRs.length : ∀ {m : List MV} {v : List Value}, VRs Y Z φ m v → v.length = m.length
  | [], _, h => h ▸ rfl
  | _ :: _, _, ⟨_, _, e, _, b⟩ => e ▸ congrArg (· + 1) (VRs.length b)
theorem VRs.get : ∀ {m : List MV} {v : List Value}, VRs Y Z φ m v → ∀ {i : Nat} {x : MV}, m[i]? = some x → ∃ y, v[i]? = some y ∧ VR Y Z φ x y
  | [], _, _, _, _, q => nomatch q
  | _ :: _, _, ⟨v, _, e, a, _⟩, 0, _, q => by cases q; exact ⟨v, e ▸ rfl, a⟩
  | _ :: _, _, ⟨_, _, e, _, b⟩, i + 1, _, q => let ⟨y, h, g⟩ := VRs.get b (i := i) q; ⟨y, e ▸ h, g⟩
theorem VRs.append : ∀ {m : List MV} {v : List Value} {m' : List MV} {v' : List Value}, VRs Y Z φ m v → VRs Y Z φ m' v' → VRs Y Z φ (m ++ m') (v ++ v')
  | [], _, _, _, h, h' => h ▸ h'
  | _ :: _, _, _, _, ⟨v, r, e, a, b⟩, h' => ⟨v, r ++ _, e ▸ rfl, a, VRs.append b h'⟩
theorem VRs.take : ∀ {m : List MV} {v : List Value} (k : Nat), VRs Y Z φ m v → VRs Y Z φ (m.take k) (v.take k)
  | _, _, 0, _ => rfl
  | [], _, _ + 1, h => h ▸ rfl
  | _ :: _, _, k + 1, ⟨v, r, e, a, b⟩ => ⟨v, r.take k, e ▸ rfl, a, VRs.take k b⟩
theorem VRs.drop : ∀ {m : List MV} {v : List Value} (k : Nat), VRs Y Z φ m v → VRs Y Z φ (m.drop k) (v.drop k)
  | _, _, 0, h => h
  | [], _, _ + 1, h => h ▸ rfl
  | _ :: _, _, k + 1, ⟨_, _, e, _, b⟩ => e ▸ VRs.drop k b
theorem VRs.replicate {m : MV} {v : Value} (h : VR Y Z φ m v) : ∀ k, VRs Y Z φ (List.replicate k m) (List.replicate k v)
  | 0 => rfl
  | k + 1 => ⟨v, _, rfl, h, VRs.replicate h k⟩
end
theorem Ents.length {hs : Str → Int} : ∀ {ns : List Str} {vs : List Value} {es : List DictEntry}, Ents hs ns vs es → es.length = ns.length ∧ vs.length = ns.length
  | _, _, _, .nil => ⟨rfl, rfl⟩
  | _, _, _, .cons _ r => ⟨congrArg (· + 1) r.length.1, congrArg (· + 1) r.length.2⟩
structure Cf where
  Z : ZM
  Mu : MU
  φ : PH
  H : MH
  s : Shared
section
variable (Y : Sys)
structure InstOf (Z : ZM) (o : MObj) (x dx : Addr) (k : MCls) (C : Addr) : Prop where
  cls : Y.P.cls[o.c]? = some k
  nrec : k.record = false
  adr : Y.T.cadr[o.c]? = some C
  inst : Z x = some (instObj C dx)
  flds : ∀ p ∈ o.fs, p.1 ∈ k.flds
structure ObjAt (Z : ZM) (φ : PH) (Mu : MU) (o : MObj) (x dx : Addr) (es : List DictEntry) (n : Nat) (vs : List Value) : Prop where
  mu : Mu dx = some (.st (dictOf es n))
  en : Ents Y.T.hs (o.fs.map fun f => nameOf Y.T f.1) vs es
  vr : VRs Y Z φ (o.fs.map (·.2)) vs
  nm : ∀ p ∈ o.fs, p.1 < Y.T.names.length
  kind : (∃ k C, InstOf Y Z o x dx k C) ∨ (o.c = Y.P.cls.length ∧ x = dx)
structure HR (Z : ZM) (φ : PH) (Mu : MU) (H : MH) : Prop where
  len : φ.length = H.length
  obj : ∀ (i : Nat) o, H[i]? = some o → ∃ x dx es n vs, φ[i]? = some (x, dx) ∧ ObjAt Y Z φ Mu o x dx es n vs
  nd : (φ.map (·.2)).Nodup
structure Cf.Ok (c : Cf) : Prop where
  inv : Inv c.Z c.Mu c.s.heap
  hr : HR Y c.Z c.φ c.Mu c.H
  base : ZLe Y.H0.get? c.Z
end
noncomputable def rest (s : Shared) := (s.gens, s.os, s.drawn)
structure StB (c c' : Cf) : Prop where
  z : ZLe c.Z c'.Z
  p : PLe c.φ c'.φ
  t : rest c'.s = rest c.s
structure Step (c c' : Cf) : Prop extends StB c c' where
  k : ∀ a x, c.Mu a = some x → ∃ y, c'.Mu a = some y ∧ (x.isSt = false → y = x)
theorem StB.refl (c : Cf) : StB c c := ⟨ZLe.refl, PLe.refl, rfl⟩
theorem StB.trans {a b c : Cf} (x : StB a b) (y : StB b c) : StB a c := ⟨fun q o e => y.z q o (x.z q o e), fun q o e => y.p q o (x.p q o e), y.t.trans x.t⟩
theorem Step.refl (c : Cf) : Step c c := ⟨StB.refl c, fun _ x e => ⟨x, e, fun _ => rfl⟩⟩
theorem Step.trans {a b c : Cf} (x : Step a b) (y : Step b c) : Step a c :=
  ⟨x.toStB.trans y.toStB, fun q w e => let ⟨u, e', f⟩ := x.k q w e; let ⟨v, e'', g⟩ := y.k q u e'; ⟨v, e'', fun n => by have := f n; subst this; exact g n⟩⟩
theorem Step.keep {c c' : Cf} (s : Step c c') {a : Addr} {x : MC} (n : x.isSt = false) (e : c.Mu a = some x) : c'.Mu a = some x :=
  let ⟨_, e', f⟩ := s.k a x e; f n ▸ e'
noncomputable def VRc (Y : Sys) (c : Cf) (v : Value) (m : MV) : Prop := VR Y c.Z c.φ m v
noncomputable def VRsc (Y : Sys) (c : Cf) (v : List Value) (m : List MV) : Prop := VRs Y c.Z c.φ m v
noncomputable def Bc (_ : Cf) (v b : Bool) : Prop := v = b
theorem VRc.step {Y : Sys} {c c' : Cf} (s : StB c c') {v : Value} {m : MV} (h : VRc Y c v m) : VRc Y c' v m := VR.mono s.z s.p m h
theorem VRsc.step {Y : Sys} {c c' : Cf} (s : StB c c') {v : List Value} {m : List MV} (h : VRsc Y c v m) : VRsc Y c' v m := VRs.mono s.z s.p m h
theorem InstOf.mono {Y : Sys} {Z Z' : ZM} {o : MObj} {x dx : Addr} {k : MCls} {C : Addr} (h : InstOf Y Z o x dx k C) (z : ZLe Z Z') : InstOf Y Z' o x dx k C := ⟨h.cls, h.nrec, h.adr, z _ _ h.inst, h.flds⟩
theorem ObjAt.mono {Y : Sys} {Z Z' : ZM} {φ φ' : PH} {Mu Mu' : MU} {o : MObj} {x dx : Addr} {es : List DictEntry} {n : Nat} {vs : List Value} (h : ObjAt Y Z φ Mu o x dx es n vs) (z : ZLe Z Z') (p : PLe φ φ') (m : Mu' dx = some (.st (dictOf es n))) : ObjAt Y Z' φ' Mu' o x dx es n vs :=
  ⟨m, h.en, VRs.mono z p _ h.vr, h.nm, h.kind.imp (fun ⟨k, C, i⟩ => ⟨k, C, i.mono z⟩) id⟩
theorem ObjAt.own {Y : Sys} {Z : ZM} {φ : PH} {Mu : MU} {o : MObj} {x dx : Addr} {es : List DictEntry} {n : Nat} {vs : List Value} (h : ObjAt Y Z φ Mu o x dx es n vs) {k : MCls} (e : Y.P.cls[o.c]? = some k) : ∃ C, InstOf Y Z o x dx k C := by
  rcases h.kind with ⟨k', C, i⟩ | ⟨q, _⟩
  · cases i.cls.symm.trans e; exact ⟨C, i⟩
  · rw [q, List.getElem?_eq_none (Nat.le_refl _)] at e; cases e
theorem HR.mono {Y : Sys} {Z Z' : ZM} {φ : PH} {Mu Mu' : MU} {H : MH} (h : HR Y Z φ Mu H) (z : ZLe Z Z') (k : ∀ a o, Mu a = some (.st o) → Mu' a = some (.st o)) : HR Y Z' φ Mu' H :=
  ⟨h.len, fun i o e => let ⟨x, dx, es, n, vs, a, b⟩ := h.obj i o e; ⟨x, dx, es, n, vs, a, b.mono z PLe.refl (k _ _ b.mu)⟩, h.nd⟩
section
variable {Y : Sys} {c c' : Cf}
noncomputable def Cf.heap (c : Cf) (h : Heap) (tk : Nat) : Cf := { c with s := { c.s with heap := h, toks := tk } }
theorem Cf.Ok.heap (k : c.Ok Y) {h : Heap} (tk : Nat) (e : ∀ b o, c.s.heap.get? b = some o → h.get? b = some o) : (c.heap h tk).Ok Y := ⟨k.inv.keeps e, k.hr, k.base⟩
theorem Step.heap (c : Cf) (h : Heap) (tk : Nat) : Step c (c.heap h tk) := ⟨⟨ZLe.refl, PLe.refl, rfl⟩, fun _ x e => ⟨x, e, fun _ => rfl⟩⟩
structure Cf.Un (c : Cf) (a : Addr) : Prop where
  z : c.Z a = none
  m : ∀ x, c.Mu a = some x → x.isSt = false
theorem Cf.Un.st (u : c.Un a) {b : Addr} {o : Obj} (e : c.Mu b = some (.st o)) : b ≠ a := fun q => nomatch u.m _ (q ▸ e : c.Mu a = some (.st o))
theorem Cf.Ok.free (k : c.Ok Y) {a : Addr} (n : c.s.heap.objs.size ≤ a) : c.Z a = none ∧ c.Mu a = none := k.inv.free n
theorem un_free {a : Addr} (h : c.Z a = none ∧ c.Mu a = none) : c.Un a := ⟨h.1, fun _ e => nomatch h.2.symm.trans e⟩
theorem Cf.Ok.un (k : c.Ok Y) {a : Addr} {x : MC} (e : c.Mu a = some x) (n : x.isSt = false) : c.Un a := ⟨k.inv.d a x e, fun y e' => by rw [e] at e'; cases e'; exact n⟩
noncomputable def Cf.setM (c : Cf) (a : Addr) (x : Option MC) (h : Heap) (tk : Nat) : Cf := { c with Mu := upd c.Mu a x, s := { c.s with heap := h, toks := tk } }
theorem Cf.Ok.setM (k : c.Ok Y) {a : Addr} {x : Option MC} {h : Heap} (tk : Nat) (u : c.Un a) (e : Heap.ExtBut a c.s.heap h) (hx : ∀ y, x = some y → y.at h a) : (c.setM a x h tk).Ok Y :=
  ⟨k.inv.setM u.z e hx, k.hr.mono ZLe.refl fun _ _ e => (upd_ne (u.st e)).trans e, k.base⟩
theorem Step.setM (s : Step c c') {a : Addr} {x : Option MC} {h : Heap} {tk : Nat} (hn : c.Mu a = none) : Step c (c'.setM a x h tk) :=
  ⟨⟨s.z, s.p, s.t⟩, fun b y e => let ⟨u, e', f⟩ := s.k b y e; ⟨u, (upd_ne (ne_none hn e)).trans e', f⟩⟩
noncomputable def Cf.setZ (c : Cf) (a : Addr) (o : Obj) (h : Heap) (tk : Nat) : Cf := { c with Z := upd c.Z a (some o), Mu := upd c.Mu a none, s := { c.s with heap := h, toks := tk } }
theorem Cf.Ok.setZ (k : c.Ok Y) {a : Addr} {o : Obj} {h : Heap} (tk : Nat) (u : c.Un a) (e : Heap.ExtBut a c.s.heap h) (hx : h.get? a = some o) : (c.setZ a o h tk).Ok Y :=
  ⟨k.inv.setZ u.z e hx, k.hr.mono (ZLe.upd u.z) fun _ _ e => (upd_ne (u.st e)).trans e, fun b x e => ZLe.upd u.z b x (k.base b x e)⟩
theorem Step.setZ (s : Step c c') {a : Addr} {o : Obj} {h : Heap} {tk : Nat} (hn : c.Mu a = none) (hz : c'.Z a = none) : Step c (c'.setZ a o h tk) :=
  ⟨⟨fun b x e => ZLe.upd hz b x (s.z b x e), s.p, s.t⟩, fun b y e => let ⟨u, e', f⟩ := s.k b y e; ⟨u, (upd_ne (ne_none hn e)).trans e', f⟩⟩
theorem Cf.setZ_z (c : Cf) (a : Addr) (o : Obj) (h : Heap) (tk : Nat) : (c.setZ a o h tk).Z a = some o := upd_self ..
theorem Cf.setM_m (c : Cf) (a : Addr) (x : Option MC) (h : Heap) (tk : Nat) : (c.setM a x h tk).Mu a = x := upd_self ..
theorem Cf.setM_ne {a b : Addr} {x : Option MC} {h : Heap} {tk : Nat} (n : b ≠ a) : (c.setM a x h tk).Mu b = c.Mu b := upd_ne n
theorem Cf.Ok.stays (k : c.Ok Y) : ∀ b o, Y.H0.get? b = some o → c.s.heap.get? b = some o := fun b o e => k.inv.z _ _ (k.base _ _ e)
theorem Cf.Ok.kin (k : c.Ok Y) : Y.T.K.In c.s.heap := Y.X.kin.keeps k.stays
theorem Cf.Ok.ns (k : c.Ok Y) {a : Addr} {m : Str → Option Value} (e : c.Mu a = some (.fr m)) : c.s.heap.Ns a m := fr_at (k.inv.m _ _ e)
theorem fresh_step (s : Step c c') {a : Addr} (h : c'.Z a = none ∧ c'.Mu a = none) : c.Z a = none ∧ c.Mu a = none :=
  ⟨Option.eq_none_iff_forall_ne_some.mpr fun o e => (nomatch h.1.symm.trans (s.z a o e)), Option.eq_none_iff_forall_ne_some.mpr fun o e => let ⟨_, e', _⟩ := s.k a o e; nomatch h.2.symm.trans e'⟩
end
end Mini
end
noncomputable section
namespace Mini
open PySem PySem.W PySem.Calls PyProof.Rows
structure SC where
  vars : List (Str × Nat)
  names : List (Str × NameKind)
noncomputable def dbg : Str := "__debug__"
noncomputable def dot0 : Str := ".0"
noncomputable def SC.isLocal (sc : SC) (x : Str) : Bool := sc.names.lookup x == some .local
noncomputable def SC.isOwn (sc : SC) (x : Str) : Bool := sc.isLocal x || sc.names.lookup x == some .cell
noncomputable def SC.own (sc : SC) (x : Str) : Option Nat := if sc.isOwn x && !(x == dbg) then sc.vars.lookup x else none
noncomputable def SC.slot (sc : SC) (x : Str) : Option Nat := if (sc.isOwn x || sc.names.lookup x == some .free) && !(x == dbg) then sc.vars.lookup x else none
noncomputable def innerK (sc : SC) (n : Str) (k : NameKind) : NameKind := if k == .free && sc.names.lookup n == some .cell then .cell else k
noncomputable def SC.inner (sc : SC) (names : List (Str × NameKind)) (y : Str) (x : Nat) : SC := ⟨(y, x) :: sc.vars, names.map fun p => (p.1, innerK sc p.1 p.2)⟩
noncomputable def compOk (sc : SC) (scope : Scope) (y : Str) (x : Nat) : Bool :=
  scope.kind == .function && scope.names.lookup y == some .local && !(y == dot0) && sc.vars.all (fun p => p.2 != x) &&
  scope.names.all (fun p => p.2 == .local && (p.1 == y || p.1 == dot0) || p.2 == .globalImplicit || p.2 == .free && sc.names.lookup p.1 == some .cell) &&
  (scope.names.map (·.1)).Nodup && (sc.vars.lookup dot0).isNone
structure Pt where
  p : Pos
  a : Expr := default
  b : Expr := default
  c : Expr := default
  xs : List Expr := []
  s : Str := default
  n : Nat := 0
  q : Pos := default
  sc : Scope := default
noncomputable def callee (e : Expr) : Expr × Str × Pos := match e with
  | .Name s q => (e, s, q)
  | .Attribute v s q => (v, s, q)
  | _ => (e, default, default)
noncomputable def parts (e : Expr) : Pt := match e with
  | .BoolOp _ xs p => { p, xs }
  | .BinOp a _ b p => { p, a, b }
  | .UnaryOp _ a p => { p, a }
  | .IfExp c a b p => { p, a, b, c }
  | .ListComp a gs sc p => { p, a, sc, b := (gs.headD default).iter, c := (gs.headD default).ifs.headD default, xs := [(gs.headD default).target] }
  | .Compare a _ xs p => { p, a, xs }
  | .Call f xs _ p => { p, xs, a := (callee f).1, s := (callee f).2.1, q := (callee f).2.2 }
  | .FormattedValue a _ _ p => { p, a }
  | .JoinedStr xs p => { p, xs }
  | .Constant v n p => { p, n, s := match v with | .str s => s | _ => default }
  | .Attribute a _ p => { p, a }
  | .Subscript a b p => { p, a, b }
  | .Name s p => { p, s }
  | .List xs p => { p, xs }
  | .Dict _ xs p => { p, xs }
  | .Tuple xs n p => { p, xs, n }
  | .Slice l u _ p => { p, a := l.getD default, b := u.getD default }
  | _ => { p := default }
noncomputable def hd1 (xs : List Expr) : Expr := xs.headD default
noncomputable def hd2 (xs : List Expr) : Expr := xs.tail.headD default
noncomputable def asName (e : Expr) : Expr := .Name (parts e).s (parts e).p
noncomputable def realOp (o : Op) : Operator := match o with
  | .add => .Add | .sub => .Sub | .mul => .Mult | .fdiv => .FloorDiv | .mod => .Mod
noncomputable def realCp (o : Cp) : CmpOp := match o with
  | .eq => .Eq | .ne => .NotEq | .lt => .Lt | .le => .LtE | .gt => .Gt | .ge => .GtE
noncomputable def opsC : MCs → List CmpOp
  | .one o _ => [realCp o]
  | .cons o _ r => realCp o :: opsC r
noncomputable def noneAs (e : Expr) : Expr := .Constant .none (parts e).n (parts e).p
noncomputable def exCall (t : Pt) (xs : List Expr) : Expr := .Call (.Name t.s t.q) xs [] t.p
section
variable (T : Tie)
mutual
noncomputable def ex : ME → Expr → Expr
  | .bad, e => e
  | .none, e => noneAs e
  | .tt, e => .Constant (.bool true) (parts e).n (parts e).p
  | .ff, e => .Constant (.bool false) (parts e).n (parts e).p
  | .int i, e => .Constant (.int i) (parts e).n (parts e).p
  | .neg i, e => .UnaryOp .USub (.Constant (.int i) (parts (parts e).a).n (parts (parts e).a).p) (parts e).p
  | .bnil, e => .Constant (.bytes []) (parts e).n (parts e).p
  | .gint _ _, e => asName e
  | .var _, e => asName e
  | .attr a f, e => .Attribute (ex a (parts e).a) (nameOf T f) (parts e).p
  | .bin o a b, e => .BinOp (ex a (parts e).a) (realOp o) (ex b (parts e).b) (parts e).p
  | .cmp a c, e => .Compare (ex a (parts e).a) (opsC c) (exC c (parts e).xs) (parts e).p
  | .isNone a, e => .Compare (ex a (parts e).a) [.Is] [noneAs (hd1 (parts e).xs)] (parts e).p
  | .notNone a, e => .Compare (ex a (parts e).a) [.IsNot] [noneAs (hd1 (parts e).xs)] (parts e).p
  | .and es, e => .BoolOp .And (exs es (parts e).xs) (parts e).p
  | .or es, e => .BoolOp .Or (exs es (parts e).xs) (parts e).p
  | .not a, e => .UnaryOp .Not (ex a (parts e).a) (parts e).p
  | .ite c a b, e => .IfExp (exT c (parts e).c) (ex a (parts e).a) (ex b (parts e).b) (parts e).p
  | .idx a b, e => .Subscript (ex a (parts e).a) (ex b (parts e).b) (parts e).p
  | .key a f, e => .Subscript (ex a (parts e).a) (.Constant (.str (nameOf T f)) (parts (parts e).b).n (parts (parts e).b).p) (parts e).p
  | .sliceA a, e => .Subscript (ex a (parts e).a) (.Slice none none none (parts (parts e).b).p) (parts e).p
  | .sliceL a l, e => .Subscript (ex a (parts e).a) (.Slice (some (ex l (parts (parts e).b).a)) none none (parts (parts e).b).p) (parts e).p
  | .sliceU a u, e => .Subscript (ex a (parts e).a) (.Slice none (some (ex u (parts (parts e).b).b)) none (parts (parts e).b).p) (parts e).p
  | .sliceLU a l u, e => .Subscript (ex a (parts e).a) (.Slice (some (ex l (parts (parts e).b).a)) (some (ex u (parts (parts e).b).b)) none (parts (parts e).b).p) (parts e).p
  | .tup es, e => .Tuple (exs es (parts e).xs) (parts e).n (parts e).p
  | .list es, e => .List (exs es (parts e).xs) (parts e).p
  | .comp elt _ it, e => .ListComp (ex elt (parts e).a) [⟨asName (hd1 (parts e).xs), exI it (parts e).b, [], 0⟩] (parts e).sc (parts e).p
  | .compIf elt _ it c, e => .ListComp (ex elt (parts e).a) [⟨asName (hd1 (parts e).xs), exI it (parts e).b, [exT c (parts e).c], 0⟩] (parts e).sc (parts e).p
  | .call _ es, e => exCall (parts e) (exs es (parts e).xs)
  | .new _ es, e => exCall (parts e) (exs es (parts e).xs)
  | .meth a m es, e => .Call (.Attribute (ex a (parts e).a) (nameOf T m) (parts e).q) (exs es (parts e).xs) [] (parts e).p
  | .len a, e => exCall (parts e) [ex a (hd1 (parts e).xs)]
  | .min2 a b, e => exCall (parts e) [ex a (hd1 (parts e).xs), ex b (hd2 (parts e).xs)]
  | .max2 a b, e => exCall (parts e) [ex a (hd1 (parts e).xs), ex b (hd2 (parts e).xs)]
  | .max1 a, e => exCall (parts e) [ex a (hd1 (parts e).xs)]
  | .tupleOf a, e => exCall (parts e) [ex a (hd1 (parts e).xs)]
  | .bytesOf a, e => exCall (parts e) [ex a (hd1 (parts e).xs)]
  | .accLast _, e => .Subscript (asName (parts e).a) (.UnaryOp .USub (.Constant (.int 1) (parts (parts (parts e).b).a).n (parts (parts (parts e).b).a).p) (parts (parts e).b).p) (parts e).p
  | .accIdx _ a, e => .Subscript (asName (parts e).a) (ex a (parts e).b) (parts e).p
  | .accLen _, e => exCall (parts e) [asName (hd1 (parts e).xs)]
noncomputable def exs : MEs → List Expr → List Expr
  | .nil, _ => []
  | .cons e r, xs => ex e (hd1 xs) :: exs r xs.tail
noncomputable def exC : MCs → List Expr → List Expr
  | .one _ e, xs => [ex e (hd1 xs)]
  | .cons _ e r, xs => ex e (hd1 xs) :: exC r xs.tail
noncomputable def exT : MT → Expr → Expr
  | .e a, e => ex a e
  | .cmp a c, e => .Compare (ex a (parts e).a) (opsC c) (exC c (parts e).xs) (parts e).p
  | .isNone a, e => .Compare (ex a (parts e).a) [.Is] [noneAs (hd1 (parts e).xs)] (parts e).p
  | .notNone a, e => .Compare (ex a (parts e).a) [.IsNot] [noneAs (hd1 (parts e).xs)] (parts e).p
  | .not t, e => .UnaryOp .Not (exT t (parts e).a) (parts e).p
  | .and ts, e => .BoolOp .And (exTs ts (parts e).xs) (parts e).p
  | .or ts, e => .BoolOp .Or (exTs ts (parts e).xs) (parts e).p
  | .acc _, e => asName e
noncomputable def exTs : MTs → List Expr → List Expr
  | .nil, _ => []
  | .cons e r, xs => exT e (hd1 xs) :: exTs r xs.tail
noncomputable def exI : MI → Expr → Expr
  | .range1 a, e => exCall (parts e) [ex a (hd1 (parts e).xs)]
  | .range2 a b, e => exCall (parts e) [ex a (hd1 (parts e).xs), ex b (hd2 (parts e).xs)]
  | .sorted a, e => exCall (parts e) [ex a (hd1 (parts e).xs)]
  | .over a, e => ex a e
end
noncomputable def plainTest (e : Expr) : Bool := match e with
  | .Name .. | .Call .. | .Subscript .. | .Attribute .. | .Constant .. => true
  | _ => false
noncomputable def noStar (e : Expr) : Bool := match e with | .Starred .. => false | _ => true
noncomputable def noSlice (e : Expr) : Bool := match e with | .Slice .. => false | _ => true
noncomputable def noSet (e : Expr) : Bool := match e with | .Set .. => false | _ => true
noncomputable def isCallE (e : Expr) : Bool := match e with | .Call .. => true | _ => false
noncomputable def isSubE (e : Expr) : Bool := match e with | .Subscript .. => true | _ => false
noncomputable def noComp (e : Expr) : Bool := match e with | .ListComp .. | .SetComp .. | .DictComp .. => false | _ => true
noncomputable def gOk (sc : SC) (x : Str) (g : GV) : Bool := sc.names.lookup x == some .globalImplicit && T.gl.lookup x == some g && !(x == dbg)
noncomputable def okG (sc : SC) (e : Expr) (g : GV) : Bool := gOk T sc (parts e).s g
noncomputable def okAcc (sc : SC) (e : Expr) (i : Nat) : Bool := sc.own (parts e).s == some i && sc.isLocal (parts e).s
mutual
noncomputable def ok (sc : SC) : ME → Expr → Bool
  | .bad, _ => true
  | .none, _ => true
  | .tt, _ => true
  | .ff, _ => true
  | .int _, _ => true
  | .neg _, _ => true
  | .bnil, _ => true
  | .gint g i, e => okG T sc e (.gint g i)
  | .var i, e => sc.slot (parts e).s == some i
  | .attr a _, e => ok sc a (parts e).a && !isCallE (ex T a (parts e).a)
  | .bin _ a b, e => ok sc a (parts e).a && ok sc b (parts e).b
  | .cmp a c, e => ok sc a (parts e).a && okC sc c (parts e).xs
  | .isNone a, e => ok sc a (parts e).a
  | .notNone a, e => ok sc a (parts e).a
  | .and es, e => oks sc es (parts e).xs
  | .or es, e => oks sc es (parts e).xs
  | .not a, e => ok sc a (parts e).a
  | .ite c a b, e => okT sc c (parts e).c && (ok sc a (parts e).a && ok sc b (parts e).b)
  | .idx a b, e => ok sc a (parts e).a && (ok sc b (parts e).b && noSlice (ex T b (parts e).b))
  | .key a _, e => ok sc a (parts e).a
  | .sliceA a, e => ok sc a (parts e).a
  | .sliceL a l, e => ok sc a (parts e).a && ok sc l (parts (parts e).b).a
  | .sliceU a u, e => ok sc a (parts e).a && ok sc u (parts (parts e).b).b
  | .sliceLU a l u, e => ok sc a (parts e).a && (ok sc l (parts (parts e).b).a && ok sc u (parts (parts e).b).b)
  | .tup es, e => oks sc es (parts e).xs && decide ((exs T es (parts e).xs).length ≤ 1000)
  | .list es, e => oks sc es (parts e).xs && decide ((exs T es (parts e).xs).length ≤ 1000)
  | .comp elt x it, e => compOk sc (parts e).sc (parts (hd1 (parts e).xs)).s x && (okI sc it (parts e).b && ok (sc.inner (parts e).sc.names (parts (hd1 (parts e).xs)).s x) elt (parts e).a)
  | .compIf elt x it c, e => compOk sc (parts e).sc (parts (hd1 (parts e).xs)).s x && (okI sc it (parts e).b && (ok (sc.inner (parts e).sc.names (parts (hd1 (parts e).xs)).s x) elt (parts e).a && okT (sc.inner (parts e).sc.names (parts (hd1 (parts e).xs)).s x) c (parts e).c))
  | .call f es, e => okG T sc e (.fn f) && oks sc es (parts e).xs
  | .new c es, e => okG T sc e (.cls c) && oks sc es (parts e).xs
  | .meth a _ es, e => ok sc a (parts e).a && (!isCallE (ex T a (parts e).a) && (oks sc es (parts e).xs && (decide ((exs T es (parts e).xs).length ≤ 20) && (parts e).q.endLine == (parts e).p.line)))
  | .len a, e => okG T sc e (.blt 0) && (ok sc a (hd1 (parts e).xs) && noStar (ex T a (hd1 (parts e).xs)))
  | .min2 a b, e => okG T sc e (.blt 1) && ((ok sc a (hd1 (parts e).xs) && noStar (ex T a (hd1 (parts e).xs))) && (ok sc b (hd1 (parts e).xs.tail) && noStar (ex T b (hd1 (parts e).xs.tail))))
  | .max2 a b, e => okG T sc e (.blt 2) && ((ok sc a (hd1 (parts e).xs) && noStar (ex T a (hd1 (parts e).xs))) && (ok sc b (hd1 (parts e).xs.tail) && noStar (ex T b (hd1 (parts e).xs.tail))))
  | .max1 a, e => okG T sc e (.blt 2) && (ok sc a (hd1 (parts e).xs) && noStar (ex T a (hd1 (parts e).xs)))
  | .tupleOf a, e => okG T sc e (.blt 3) && (ok sc a (hd1 (parts e).xs) && noStar (ex T a (hd1 (parts e).xs)))
  | .bytesOf a, e => okG T sc e (.blt 4) && (ok sc a (hd1 (parts e).xs) && noStar (ex T a (hd1 (parts e).xs)))
  | .accLast i, e => okAcc sc (parts e).a i
  | .accIdx i a, e => okAcc sc (parts e).a i && (ok sc a (parts e).b && noSlice (ex T a (parts e).b))
  | .accLen i, e => okG T sc e (.blt 0) && okAcc sc (hd1 (parts e).xs) i
noncomputable def oks (sc : SC) : MEs → List Expr → Bool
  | .nil, _ => true
  | .cons e r, xs => (ok sc e (hd1 xs) && noStar (ex T e (hd1 xs))) && oks sc r xs.tail
noncomputable def okC (sc : SC) : MCs → List Expr → Bool
  | .one _ e, xs => ok sc e (hd1 xs) && noSet (ex T e (hd1 xs))
  | .cons _ e r, xs => ok sc e (hd1 xs) && (noSet (ex T e (hd1 xs)) && okC sc r xs.tail)
noncomputable def okT (sc : SC) : MT → Expr → Bool
  | .e a, e => ok sc a e && plainTest (ex T a e)
  | .cmp a c, e => ok sc a (parts e).a && okC sc c (parts e).xs
  | .isNone a, e => ok sc a (parts e).a
  | .notNone a, e => ok sc a (parts e).a
  | .not t, e => okT sc t (parts e).a
  | .and ts, e => okTs sc ts (parts e).xs
  | .or ts, e => okTs sc ts (parts e).xs
  | .acc i, e => okAcc sc e i
noncomputable def okTs (sc : SC) : MTs → List Expr → Bool
  | .nil, _ => true
  | .cons e r, xs => okT sc e (hd1 xs) && okTs sc r xs.tail
noncomputable def okI (sc : SC) : MI → Expr → Bool
  | .range1 a, e => okG T sc e (.blt 5) && (ok sc a (hd1 (parts e).xs) && noStar (ex T a (hd1 (parts e).xs)))
  | .range2 a b, e => okG T sc e (.blt 5) && ((ok sc a (hd1 (parts e).xs) && noStar (ex T a (hd1 (parts e).xs))) && (ok sc b (hd1 (parts e).xs.tail) && noStar (ex T b (hd1 (parts e).xs.tail))))
  | .sorted a, e => okG T sc e (.blt 6) && (ok sc a (hd1 (parts e).xs) && noStar (ex T a (hd1 (parts e).xs)))
  | .over a, e => ok sc a e && noSet (ex T a e)
end
end
end Mini
end
noncomputable section
namespace Mini
open PySem PySem.W PySem.Calls PyProof.Rows
noncomputable def Slot (env : Env) (Mu : MU) (x : Str) (r : Value) : Prop :=
  (env.kindOf x = some .local ∧ ∃ m, Mu env.locals = some (.fr m) ∧ m x = some r) ∨
  ((env.kindOf x = some .cell ∨ env.kindOf x = some .free) ∧ ∃ a, env.cells.lookup x = some a ∧ Mu a = some (.ce (some r)))
structure EnvOk (env : Env) (sc : SC) : Prop where
  names : env.scope.names = sc.names
  kind : env.scope.kind = .function
  glob : env.globals = mainGlobals
  blt : env.builtins = builtinsNs
  cls : env.kindOf "__classdict__" ≠ some .free
theorem EnvOk.k {env : Env} {sc : SC} (E : EnvOk env sc) (x : Str) : env.kindOf x = sc.names.lookup x := congrArg (List.lookup x) E.names
section
variable (Y : Sys)
noncomputable def LVR (c : Cf) (r : Value) : LV → Prop
  | .un => True
  | .val v => VR Y c.Z c.φ v r
  | .acc l => ∃ a vs n, r = .ref a ∧ c.Mu a = some (.ex (listOf vs.toArray n)) ∧ VRs Y c.Z c.φ l vs ∧ l.length ≤ 2000
noncomputable def LocR (env : Env) (sc : SC) (loc : Loc) (c : Cf) : Prop :=
  ∀ x i, sc.slot x = some i → lget loc i ≠ .un → ∃ r, Slot env c.Mu x r ∧ LVR Y c r (lget loc i)
noncomputable def FramesOk (c : Cf) (l : List Env) : Prop := ∀ env ∈ l, env.scope.kind ≠ .module ∧ ∃ L m, env.frame = some L ∧ c.Mu L = some (.fr m)
structure Holds (B : Heap) (c : Cf) : Prop where
  z : ∀ a o, c.Z a = some o → B.get? a = some o
  m : ∀ a x, c.Mu a = some x → (∀ m, x ≠ .fr m) → x.at B a
structure Flown (c : Cf) (l : List Env) (e : Value) (k : Nat) (a C : Addr) (B : Heap) (a0 : Value) : Prop where
  e : e = .ref a
  cls : Y.T.eadr[k]? = some C
  fl : Heap.FlyingW B l a (.ref C) a0 c.s.heap
  holds : Holds B c
end
section
variable {Y : Sys}
theorem Slot.step {env : Env} {c c' : Cf} {x : Str} {r : Value} (s : Step c c') : Slot env c.Mu x r → Slot env c'.Mu x r
  | .inl ⟨k, m, e, q⟩ => .inl ⟨k, m, s.keep rfl e, q⟩
  | .inr ⟨k, a, e, q⟩ => .inr ⟨k, a, e, s.keep rfl q⟩
theorem LVR.step {c c' : Cf} {r : Value} (s : Step c c') : ∀ {l : LV}, LVR Y c r l → LVR Y c' r l
  | .un, _ => trivial
  | .val v, h => VR.mono s.z s.p v h
  | .acc _, ⟨a, vs, n, e, q, v, z⟩ => ⟨a, vs, n, e, s.keep rfl q, VRs.mono s.z s.p _ v, z⟩
theorem LocR.step {env : Env} {sc : SC} {loc : Loc} {c c' : Cf} (s : Step c c') (h : LocR Y env sc loc c) : LocR Y env sc loc c' :=
  fun x i e n => let ⟨r, a, b⟩ := h x i e n; ⟨r, a.step s, b.step s⟩
theorem FramesOk.step {c c' : Cf} {l : List Env} (s : Step c c') (h : FramesOk c l) : FramesOk c' l :=
  fun env he => let ⟨k, L, m, f, e⟩ := h env he; ⟨k, L, m, f, s.keep rfl e⟩
end
structure Go {α β : Type} (Y : Sys) (l : List Env) (R : Cf → α → β → Prop) (r : RS β) (c : Cf) (Q : α → Shared → Prop) (E : Value → Shared → Prop) : Prop where
  nb : r ≠ .bad
  ok : ∀ c' v b, c'.Ok Y → Step c c' → r = .ok b c'.H → R c' v b → Q v c'.s
  ex : ∀ c' k e a C B a0, c'.Ok Y → Step c c' → r = .ex k c'.H → Flown Y c' l e k a C B a0 → E e c'.s
noncomputable def Wk {α β : Type} (Y : Sys) (A : Around) (l : List Env) (m : Sem α) (R : Cf → α → β → Prop) (r : RS β) (c : Cf) : Prop :=
  ∀ Q E, Go Y l R r c Q E → wpAny Y.M A m Q E c.s
section
variable {Y : Sys} {A : Around} {l : List Env} {α β γ δ : Type}
section
variable {R : Cf → α → β → Prop} {R' : Cf → γ → δ → Prop} {r : RS β} {f : β → MH → RS δ} {c : Cf} {Q : α → Shared → Prop} {Q' : γ → Shared → Prop} {E : Value → Shared → Prop}
theorem Go.next (g : Go Y l R' (r.bind f) c Q' E) {c' : Cf} (s : Step c c') {b : β} (e : r = .ok b c'.H) : Go Y l R' (f b c'.H) c' Q' E :=
  have q : r.bind f = f b c'.H := e ▸ rfl
  ⟨q ▸ g.nb, fun c₂ v w k t z => g.ok c₂ v w k (s.trans t) (q.trans z), fun c₂ k e' a C B a0 o t z => g.ex c₂ k e' a C B a0 o (s.trans t) (q.trans z)⟩
theorem Wk.seq {m : Sem α} (h : Wk Y A l m R r c) (g : Go Y l R' (r.bind f) c Q' E)
    (k : ∀ c' v b, c'.Ok Y → Step c c' → R c' v b → Go Y l R' (f b c'.H) c' Q' E → Q v c'.s) : wpAny Y.M A m Q E c.s :=
  h Q E ⟨fun e => g.nb (e ▸ rfl), fun c' v b o s e q => k c' v b o s q (g.next s e), fun c' k' e' a C B a0 o s e fl => g.ex c' k' e' a C B a0 o s (e ▸ rfl) fl⟩
theorem Go.opt {ω : Type} {o : Option ω} {f : ω → RS β} (g : Go Y l R (opt o f) c Q E) : ∃ a, o = some a ∧ Go Y l R (f a) c Q E := match o, g with
  | some a, g => ⟨a, rfl, g⟩
  | none, g => absurd rfl g.nb
theorem Go.here {b : β} {v : α} (g : Go Y l R (.ok b c.H) c Q E) (k : c.Ok Y) (h : R c v b) : Q v c.s := g.ok c v b k (Step.refl c) rfl h
end
section
variable {c : Cf} {Q : Value → Shared → Prop} {E : Value → Shared → Prop} {m : MV}
theorem Go.tok (g : Go Y l (VRc Y) (.ok m c.H) c Q E) (k : c.Ok Y) {v : Value} (n : Nat) (h : VR Y c.Z c.φ m v) : Q v { c.s with toks := n } :=
  g.ok (c.heap c.s.heap n) v m (k.heap n fun _ _ e => e) (Step.heap c _ n) rfl h
theorem Go.heap (g : Go Y l (VRc Y) (.ok m c.H) c Q E) (k : c.Ok Y) {v : Value} {h : Heap} (n : Nat) (e : ∀ b o, c.s.heap.get? b = some o → h.get? b = some o) (hv : VR Y c.Z c.φ m v) : Q v { c.s with heap := h, toks := n } :=
  g.ok (c.heap h n) v m (k.heap n e) (Step.heap c _ n) rfl hv
theorem Go.list {ms : List MV} (g : Go Y l (VRc Y) (.ok (.list ms) c.H) c Q E) (k : c.Ok Y) {h : Heap} {a : Addr} {vs : List Value} {n : Nat} (t : Nat) (ha : h.get? a = some (listOf vs.toArray n)) (f : c.Z a = none ∧ c.Mu a = none)
    (e : ∀ b o, b ≠ a → c.s.heap.get? b = some o → h.get? b = some o) (hv : VRs Y c.Z c.φ ms vs) (hl : ms.length ≤ 10000000) : Q (.ref a) { c.s with heap := h, toks := t } :=
  g.ok (c.setZ a (listOf vs.toArray n) h t) _ _ (k.setZ t (un_free f) e ha) ((Step.refl c).setZ f.2 f.1) rfl ⟨a, vs, n, rfl, upd_self .., VRs.mono (ZLe.upd f.1) PLe.refl _ hv, hl⟩
theorem Go.tup {ms : List MV} (g : Go Y l (VRc Y) (.ok (.tup ms) c.H) c Q E) (k : c.Ok Y) {h : Heap} {a : Addr} {vs : List Value} (t : Nat) (ha : h.get? a = some (tupOf vs.toArray)) (f : c.Z a = none ∧ c.Mu a = none)
    (e : ∀ b o, b ≠ a → c.s.heap.get? b = some o → h.get? b = some o) (hv : VRs Y c.Z c.φ ms vs) (hl : ms.length ≤ 10000000) : Q (.ref a) { c.s with heap := h, toks := t } :=
  g.ok (c.setZ a (tupOf vs.toArray) h t) _ _ (k.setZ t (un_free f) e ha) ((Step.refl c).setZ f.2 f.1) rfl ⟨a, vs, rfl, upd_self .., VRs.mono (ZLe.upd f.1) PLe.refl _ hv, hl⟩
end
theorem of_bind {ω σ : Type} {o : Option ω} {f : ω → Option σ} {r : σ} : o.bind f = some r → ∃ a, o = some a ∧ f a = some r := Option.bind_eq_some_iff.mp
theorem of_or {ω : Type} {x y : Option ω} {r : ω} (h : x.or y = some r) : x = some r ∨ y = some r := match x, h with
  | some _, h => .inl h
  | none, h => .inr h
theorem of_guard {ω : Type} {b : Bool} {v r : ω} (h : guardO b v = some r) : b = true ∧ v = r := match b, h with
  | true, h => ⟨rfl, Option.some.inj h⟩
theorem MV.none_of {v : MV} {u : Unit} (h : v.none? = some u) : v = .none := by cases v <;> first | rfl | cases h
theorem MV.bool_of {v : MV} {i : Bool} (h : v.bool? = some i) : v = .bool i := by cases v <;> first | cases h; rfl | cases h
theorem MV.int_of {v : MV} {i : Int} (h : v.int? = some i) : v = .int i := by cases v <;> first | cases h; rfl | cases h
theorem MV.bytes_of {v : MV} {i : List Nat} (h : v.bytes? = some i) : v = .bytes i := by cases v <;> first | cases h; rfl | cases h
theorem MV.tup_of {v : MV} {i : List MV} (h : v.tup? = some i) : v = .tup i := by cases v <;> first | cases h; rfl | cases h
theorem MV.list_of {v : MV} {i : List MV} (h : v.list? = some i) : v = .list i := by cases v <;> first | cases h; rfl | cases h
theorem MV.inst_of {v : MV} {p : Nat × List MV} (h : v.inst? = some p) : v = .inst p.1 p.2 := by cases v <;> first | cases h; rfl | cases h
theorem MV.obj_of {v : MV} {i : Nat} (h : v.obj? = some i) : v = .obj i := by cases v <;> first | cases h; rfl | cases h
theorem LV.val_of {v : LV} {x : MV} (h : v.val? = some x) : v = .val x := by cases v <;> first | cases h; rfl | cases h
theorem LV.acc_of {v : LV} {x : List MV} (h : v.acc? = some x) : v = .acc x := by cases v <;> first | cases h; rfl | cases h
theorem intz_of {ω : Type} {v w : MV} {f : Int → Int → Option ω} {r : ω} (h : intz v w f = some r) : ∃ a b, v = .int a ∧ w = .int b ∧ f a b = some r :=
  let ⟨a, e, h⟩ := of_bind h; let ⟨b, e', h⟩ := of_bind h; ⟨a, b, MV.int_of e, MV.int_of e', h⟩
theorem listz_of {ω : Type} {v w : MV} {f : List MV → List MV → Option ω} {r : ω} (h : listz v w f = some r) : ∃ a b, v = .list a ∧ w = .list b ∧ f a b = some r :=
  let ⟨a, e, h⟩ := of_bind h; let ⟨b, e', h⟩ := of_bind h; ⟨a, b, MV.list_of e, MV.list_of e', h⟩
theorem and_l {a b : Bool} (h : (a && b) = true) : a = true := (Bool.and_eq_true_iff.mp h).1
theorem and_r {a b : Bool} (h : (a && b) = true) : b = true := (Bool.and_eq_true_iff.mp h).2
theorem not_t {a : Bool} (h : (!a) = true) : a = false := by cases a <;> first | rfl | cases h
theorem wp_var {env : Env} {sc : SC} {c : Cf} {x : Str} {r : Value} {E : Value → Shared → Prop} {Q : Value → Shared → Prop} (V : EnvOk env sc)
    (k : c.Ok Y) (hs : Slot env c.Mu x r) (h : Q r c.s) : wpAny Y.M A (loadName env x) Q E c.s := match hs with
  | .inl ⟨kd, _, e, q⟩ => wpAny_loadName_local V.kind kd (k.ns e) q h
  | .inr ⟨.inl kd, _, e, q⟩ => wpAny_loadName_cell V.kind kd e (k.inv.m _ _ q) h
  | .inr ⟨.inr kd, _, e, q⟩ => wpAny_loadName_free V.kind kd e (k.inv.m _ _ q) h (beq_eq_false_iff_ne.mpr fun q => V.cls (q ▸ kd))
theorem slot_dbg {sc : SC} {x : Str} {i : Nat} (h : sc.slot x = some i) : (x == dbg) = false := by
  unfold SC.slot at h
  cases q : (x == dbg) with
  | false => rfl
  | true => rw [q, Bool.not_true, Bool.and_false] at h; cases h
theorem eval_slot {env : Env} {sc : SC} {loc : Loc} {c : Cf} {x : Str} {pos : Pos} {i : Nat} {lv : LV} {E : Value → Shared → Prop} {Q : Value → Shared → Prop} (V : EnvOk env sc) (k : c.Ok Y) (L : LocR Y env sc loc c) (hs : sc.slot x = some i)
    (q : lget loc i = lv) (n : lv ≠ .un) (h : ∀ r, Slot env c.Mu x r → LVR Y c r lv → Q r c.s) : wpAny Y.M A (eval (.Name x pos) env) Q E c.s :=
  let ⟨r, a, b⟩ := L x i hs (q ▸ n)
  wpAny_Name (wp_var V k a (h r a (q ▸ b))) (slot_dbg hs)
theorem gOk_of {T : Tie} {sc : SC} {x : Str} {g : GV} (h : gOk T sc x g = true) : sc.names.lookup x = some .globalImplicit ∧ T.gl.lookup x = some g ∧ (x == dbg) = false :=
  ⟨beq_iff_eq.mp (and_l (and_l h)), beq_iff_eq.mp (and_r (and_l h)), not_t (and_r h)⟩
theorem eval_glob {env : Env} {sc : SC} {c : Cf} {x : Str} {pos : Pos} {v : Value} {g : GV} {E : Value → Shared → Prop} {Q : Value → Shared → Prop} (V : EnvOk env sc) (k : c.Ok Y)
    (hg : gOk Y.T sc x g = true) (e : nsIn Y.T.K mainGlobals x = some (some v)) (h : Q v c.s) : wpAny Y.M A (eval (.Name x pos) env) Q E c.s := by
  obtain ⟨mg, mb, hm, _⟩ := Y.X.ng
  refine wpAny_Name ?_ (gOk_of hg).2.2
  rw [loadName_read V.kind ((V.k x).trans (gOk_of hg).1)]
  exact loadGlobal_global (V.glob ▸ hm.keeps k.stays) (mg_of Y.X.kin hm e) h
theorem glob_fn {env : Env} {sc : SC} {c : Cf} {x : Str} {pos : Pos} {f : Nat} {E : Value → Shared → Prop} {Q : Value → Shared → Prop} (V : EnvOk env sc) (k : c.Ok Y) (hg : gOk Y.T sc x (.fn f) = true)
    (h : ∀ a, flook f Y.T.fadr = some a → keepIn Y.T.K (.ref a) = true → Q (.ref a) c.s) : wpAny Y.M A (eval (.Name x pos) env) Q E c.s :=
  let ⟨a, e1, e2, e3⟩ := Y.X.fn x f (gOk_of hg).2.1
  eval_glob V k hg e2 (h a e1 e3)
theorem glob_cls {env : Env} {sc : SC} {c : Cf} {x : Str} {pos : Pos} {f : Nat} {E : Value → Shared → Prop} {Q : Value → Shared → Prop} (V : EnvOk env sc) (k : c.Ok Y) (hg : gOk Y.T sc x (.cls f) = true)
    (h : ∀ a, Y.T.cadr[f]? = some a → keepIn Y.T.K (.ref a) = true → Q (.ref a) c.s) : wpAny Y.M A (eval (.Name x pos) env) Q E c.s :=
  let ⟨a, e1, e2, e3⟩ := Y.X.cls x f (gOk_of hg).2.1
  eval_glob V k hg e2 (h a e1 e3)
theorem glob_exc {env : Env} {sc : SC} {c : Cf} {x : Str} {pos : Pos} {f : Nat} {E : Value → Shared → Prop} {Q : Value → Shared → Prop} (V : EnvOk env sc) (k : c.Ok Y) (hg : gOk Y.T sc x (.exc f) = true)
    (h : ∀ a, Y.T.eadr[f]? = some a → Q (.ref a) c.s) : wpAny Y.M A (eval (.Name x pos) env) Q E c.s :=
  let ⟨a, e1, e2⟩ := Y.X.exc x f (gOk_of hg).2.1
  eval_glob V k hg e2 (h a e1)
theorem glob_int {env : Env} {sc : SC} {c : Cf} {x : Str} {pos : Pos} {f : Nat} {i : Int} {E : Value → Shared → Prop} {Q : Value → Shared → Prop} (V : EnvOk env sc) (k : c.Ok Y) (hg : gOk Y.T sc x (.gint f i) = true)
    (h : ∀ t, Q (.int i t) c.s) : wpAny Y.M A (eval (.Name x pos) env) Q E c.s :=
  let ⟨t, e⟩ := Y.X.gint x f i (gOk_of hg).2.1
  eval_glob V k hg e (h t)
theorem glob_blt {env : Env} {sc : SC} {c : Cf} {x : Str} {pos : Pos} {b : Nat} {E : Value → Shared → Prop} {Q : Value → Shared → Prop} (V : EnvOk env sc) (k : c.Ok Y) (hg : gOk Y.T sc x (.blt b) = true)
    (h : Q (bltV b) c.s) : wpAny Y.M A (eval (.Name x pos) env) Q E c.s := by
  obtain ⟨mg, mb, hm, hb, hm'⟩ := Y.X.ng
  obtain ⟨hn, e, hv⟩ := Y.X.blt x b (gOk_of hg).2.1
  refine wpAny_Name ?_ (gOk_of hg).2.2
  rw [loadName_read V.kind ((V.k x).trans (gOk_of hg).1)]
  exact loadGlobal_builtin (V.glob ▸ hm.keeps k.stays) (mg_none_of Y.X.kin hm e) (V.blt ▸ hb.keeps k.stays) ((hm' x hn).trans hv) h
end
noncomputable def full (as : List Addr) (h : Heap) : List (Addr × Obj) := (List.range h.objs.size).filterMap fun a => if a ∈ as then none else (h.get? a).map fun o => (a, o)
theorem mem_full {as : List Addr} {h : Heap} {a : Addr} {o : Obj} (n : a ∉ as) (e : h.get? a = some o) : (a, o) ∈ full as h :=
  List.mem_filterMap.mpr ⟨a, List.mem_range.mpr (Heap.lt_size e), by rw [if_neg n, e]; rfl⟩
theorem of_full {as : List Addr} {h : Heap} {p : Addr × Obj} (m : p ∈ full as h) : p.1 ∉ as ∧ h.get? p.1 = some p.2 := by
  obtain ⟨a, _, e⟩ := List.mem_filterMap.mp m
  by_cases n : a ∈ as
  · rw [if_pos n] at e; cases e
  · rw [if_neg n] at e
    obtain ⟨o, q, rfl⟩ := Option.map_eq_some_iff.mp e
    exact ⟨n, q⟩
noncomputable def noHeap : Heap := {}
theorem noHeap_get (a : Addr) : noHeap.get? a = none := by
  unfold noHeap Heap.get?; simp
theorem fr_of {h : Heap} {L : Addr} {m : Str → Option Value} (x : h.Ns L m) : Fr noHeap L h m :=
  ⟨x, fun b o e => (nomatch (noHeap_get b).symm.trans e), Nat.zero_le _⟩
theorem news_full {as : List Addr} {h : Heap} {L : Addr} (m : L ∈ as) : News noHeap L h (full as h) := fun p hp =>
  ⟨(of_full hp).2, fun e => (of_full hp).1 (e ▸ m), noHeap_get _⟩
section
variable {Y : Sys} {c : Cf}
theorem Cf.Ok.fr (k : c.Ok Y) {L : Addr} {m} (e : c.Mu L = some (.fr m)) : Fr noHeap L c.s.heap m := fr_of (k.ns e)
theorem Cf.Ok.news (_k : c.Ok Y) (L : Addr) : News noHeap L c.s.heap (full [L] c.s.heap) := news_full (.head _)
theorem led_get {h h' : Heap} {L : Addr} {news : List (Addr × Obj)} (N : News noHeap L h' news) (sub : ∀ p ∈ full [L] h, p ∈ news) : Heap.ExtBut L h h' :=
  fun _ _ n e => (N _ (sub _ (mem_full (fun q => n (List.mem_singleton.mp q)) e))).1
theorem Inv.led {Z : ZM} {Mu : MU} {h h' : Heap} {L : Addr} {m : Str → Option Value} (I : Inv Z Mu h) (hL : Mu L = some (.fr m)) (n : h'.Ns L m) (e : Heap.ExtBut L h h') : Inv Z Mu h' where
  z a o q := e a o (ne_none (I.d L _ hL) q) (I.z a o q)
  m a x q := if p : a = L then by subst p; rw [hL] at q; cases q; exact at_fr n else MC.at_to (e a · p) (I.m a x q)
  d := I.d
theorem Cf.Ok.led (k : c.Ok Y) {L : Addr} {m} (hL : c.Mu L = some (.fr m)) {h' : Heap} (tk : Nat) (n : h'.Ns L m) (e : Heap.ExtBut L c.s.heap h') : (c.heap h' tk).Ok Y := ⟨k.inv.led hL n e, k.hr, k.base⟩
theorem Go.led {l : List Env} {Q : Value → Shared → Prop} {E : Value → Shared → Prop} {m : MV} (g : Go Y l (VRc Y) (.ok m c.H) c Q E) (k : c.Ok Y) {L : Addr} {fm} (hL : c.Mu L = some (.fr fm)) {h' : Heap} (tk : Nat) (n : h'.Ns L fm) (e : Heap.ExtBut L c.s.heap h') {v : Value} (hv : VR Y c.Z c.φ m v) : Q v { c.s with heap := h', toks := tk } :=
  g.ok (c.heap h' tk) v m (k.led hL tk n e) (Step.heap c _ tk) rfl hv
theorem Cf.Ok.ledZ' (k : c.Ok Y) {L : Addr} {fm} (hL : c.Mu L = some (.fr fm)) {h' : Heap} {a : Addr} {o : Obj} (tk : Nat) (n : h'.Ns L fm) (e : Heap.ExtBut L c.s.heap h') (ha : h'.get? a = some o) (f : c.Z a = none ∧ c.Mu a = none) : (c.setZ a o h' tk).Ok Y ∧ Step c (c.setZ a o h' tk) :=
  ⟨(k.led hL tk n e).setZ tk (un_free f) (fun _ _ _ e => e) ha, (Step.refl c).setZ f.2 f.1⟩
theorem Cf.Ok.ledZ (k : c.Ok Y) {L : Addr} {fm} (hL : c.Mu L = some (.fr fm)) {h' : Heap} {a : Addr} {o : Obj} (tk : Nat) (n : h'.Ns L fm) (e : Heap.ExtBut L c.s.heap h') (ha : h'.get? a = some o) (hn : c.s.heap.objs.size ≤ a) : (c.setZ a o h' tk).Ok Y ∧ Step c (c.setZ a o h' tk) :=
  k.ledZ' hL tk n e ha (k.free hn)
theorem Go.ledL {l : List Env} {Q : Value → Shared → Prop} {E : Value → Shared → Prop} {ms : List MV} (g : Go Y l (VRc Y) (.ok (.list ms) c.H) c Q E) (k : c.Ok Y) {L : Addr} {fm} (hL : c.Mu L = some (.fr fm)) {h' : Heap} {a : Addr} {vs : List Value} {z : Nat} (tk : Nat) (n : h'.Ns L fm) (e : Heap.ExtBut L c.s.heap h')
    (ha : h'.get? a = some (listOf vs.toArray z)) (hn : c.s.heap.objs.size ≤ a) (hv : VRs Y c.Z c.φ ms vs) (hl : ms.length ≤ 10000000) : Q (.ref a) { c.s with heap := h', toks := tk } :=
  have p := k.ledZ hL tk n e ha hn
  g.ok _ _ _ p.1 p.2 rfl ⟨a, vs, z, rfl, upd_self .., VRs.mono p.2.z PLe.refl _ hv, hl⟩
end
end Mini
end
noncomputable section
namespace Mini
open PySem PySem.W PySem.Calls PyProof.Rows
theorem line_ok {n : Nat} (h : n ≤ 10000000) : n ≤ sizeLine := Nat.le_trans h (by decide)
theorem line_k {n : Nat} (h : n ≤ 1000) : n ≤ sizeLine := Nat.le_trans h (by decide)
theorem ten_k {n : Nat} (h : n ≤ 1000) : n ≤ 10000000 := Nat.le_trans h (by decide)
theorem len_flat {α : Type} (x : List α) : ∀ n, ((List.replicate n x).flatten).length = n * x.length
  | 0 => (Nat.zero_mul _).symm
  | n + 1 => by rw [List.replicate_succ, List.flatten_cons, List.length_append, len_flat x n, Nat.succ_mul, Nat.add_comm]
theorem flat_rep {α β : Type} (f : α → β) (x : List α) : ∀ n, (List.replicate n (x.map f)).flatten = ((List.replicate n x).flatten).map f
  | 0 => rfl
  | n + 1 => by rw [List.replicate_succ, List.flatten_cons, flat_rep f x n, List.replicate_succ, List.flatten_cons, List.map_append]
theorem foldl_one (v : Value) : ∀ (n : Nat) (l : List Value), List.foldl (fun x1 x2 => x1 ++ x2) l.toArray (List.replicate n #[v]) = (l ++ List.replicate n v).toArray
  | 0, l => by rw [List.replicate_zero, List.replicate_zero, List.append_nil]; rfl
  | n + 1, l => by
    rw [List.replicate_succ, List.foldl_cons, show l.toArray ++ #[v] = (l ++ [v]).toArray from List.append_toArray .., foldl_one v n, List.append_assoc]; rfl
theorem toNat_k {k : Int} (h : k ≤ 1000) : k.toNat ≤ 1000 := Int.toNat_le.mpr h
section
variable {Y : Sys} {A : Around} {l : List Env} {c : Cf} {Q : Value → Shared → Prop} {E : Value → Shared → Prop}
theorem Cf.Ok.isList (k : c.Ok Y) {a : Addr} {vs : Array Value} {n : Nat} (e : c.Z a = some (listOf vs n)) : c.s.heap.IsList a vs := ⟨_, k.inv.z _ _ e, rfl, n, rfl⟩
theorem Cf.Ok.isListM (k : c.Ok Y) {a : Addr} {vs : Array Value} {n : Nat} (e : c.Mu a = some (.ex (listOf vs n))) : c.s.heap.IsList a vs := ⟨_, ex_at (k.inv.m _ _ e), rfl, n, rfl⟩
theorem Cf.Ok.isTup (k : c.Ok Y) {a : Addr} {vs : Array Value} (e : c.Z a = some (tupOf vs)) : c.s.heap.IsTuple a vs := ⟨_, k.inv.z _ _ e, rfl, 0, rfl⟩
variable {L : Addr} {fm : Str → Option Value} {a b : Value} {m n r : MV}
theorem wp_add (k : c.Ok Y) (hL : c.Mu L = some (.fr fm)) (ha : VR Y c.Z c.φ m a) (hb : VR Y c.Z c.φ n b) (e : addV m n = some r) (g : Go Y l (VRc Y) (.ok r c.H) c Q E) : wpAny Y.M A (binaryOp .Add a b) Q E c.s := by
  rcases of_or e with e | e
  · obtain ⟨i, j, rfl, rfl, q⟩ := intz_of e
    obtain ⟨t, rfl⟩ := ha; obtain ⟨u, rfl⟩ := hb; cases q
    exact add_int (g.tok k _ ⟨_, rfl⟩)
  · obtain ⟨x, y, rfl, rfl, q⟩ := listz_of e
    obtain ⟨p, rfl⟩ := of_guard q
    obtain ⟨_, vs, _, rfl, ea, va, _⟩ := ha; obtain ⟨_, ws, _, rfl, eb, vb, _⟩ := hb
    have hz : (x ++ y).length ≤ 1000 := by rw [List.length_append]; exact of_decide_eq_true p
    refine add_arrays (k.fr hL) (k.news L) (k.isList ea) (k.isList eb) (fun h' F' N' => g.ledL (z := 0) k hL _ F'.ns (led_get N' fun p hp => .tail _ hp) (N' _ (.head _)).1 (Nat.le_refl _) (va.append vb) (ten_k hz)) ?_
    have := (va.append vb).length
    rw [List.length_append] at this
    exact line_k (this ▸ hz)
theorem wp_mul (k : c.Ok Y) (hL : c.Mu L = some (.fr fm)) (ha : VR Y c.Z c.φ m a) (hb : VR Y c.Z c.φ n b) (e : mulV m n = some r) (g : Go Y l (VRc Y) (.ok r c.H) c Q E) : wpAny Y.M A (binaryOp .Mult a b) Q E c.s := by
  rcases of_or e with e | e
  · obtain ⟨i, j, rfl, rfl, q⟩ := intz_of e
    obtain ⟨p, rfl⟩ := of_guard q
    obtain ⟨t, rfl⟩ := ha; obtain ⟨u, rfl⟩ := hb
    have := of_decide_eq_true p
    exact mul_int (g.tok k _ ⟨_, rfl⟩) (IntMulOk.of_left (intBits_le_64 (by omega) (by omega)))
  · obtain ⟨j, q, e⟩ := of_bind e
    cases MV.int_of q
    obtain ⟨u, rfl⟩ := hb
    rcases of_or e with e | e
    · obtain ⟨x, q, e⟩ := of_bind e
      cases MV.bytes_of q
      obtain ⟨t, rfl, hlt, _⟩ := ha
      obtain ⟨p, rfl⟩ := of_guard e
      obtain ⟨h0, h1, h2⟩ := of_decide_eq_true p
      refine bytes_mul_any (b := x.map UInt8.ofNat) (fun q => ?_) (Int.le_trans (by decide) h0) (Int.le_trans h1 (by decide)) (by rw [List.length_map, h2]; decide) fun t' k' => ?_
      · rw [List.map_eq_nil_iff.mp q] at h2; cases h2
      · rw [flat_rep]
        refine g.tok k _ ⟨t', rfl, fun z hz => ?_, ?_⟩
        · obtain ⟨y, hy, hz⟩ := List.mem_flatten.mp hz
          exact hlt z (List.eq_of_mem_replicate hy ▸ hz)
        · rw [len_flat, h2, Nat.mul_one]; exact ten_k (toNat_k h1)
    · obtain ⟨x, q, e₁⟩ := of_bind e
      cases MV.list_of q
      unfold mulL at e₁
      by_cases h2 : x.length = 1
      · obtain ⟨y, rfl⟩ := List.length_eq_one_iff.mp h2
        rw [if_pos h2] at e₁
        obtain ⟨p, rfl⟩ := of_guard e₁
        obtain ⟨h0, h1⟩ := of_decide_eq_true p
        obtain ⟨_, _, _, rfl, ea, ⟨v, _, rfl, hv, rfl⟩, _⟩ := ha
        refine mul_list (k.fr hL) (k.news L) (k.inv.z _ _ ea) (Int.le_trans (by decide) h0) (Int.lt_of_le_of_lt h1 (by decide)) (by show 1 * _ ≤ _; rw [Nat.one_mul]; exact Nat.le_trans (toNat_k h1) (by decide)) fun h' F' N' => ?_
        refine g.ledL (z := 0) (vs := List.replicate j.toNat v) k hL _ F'.ns (led_get N' fun p hp => .tail _ hp) ((N' _ (.head _)).1.trans ?_) (Nat.le_refl _) (VRs.replicate hv _) (by rw [List.length_replicate]; exact ten_k (toNat_k h1))
        exact congrArg (fun z => some (listOf z 0)) (foldl_one v j.toNat [])
      · rw [if_neg h2] at e₁; cases e₁
theorem wp_binop {o : Op} (k : c.Ok Y) (hL : c.Mu L = some (.fr fm)) (ha : VR Y c.Z c.φ m a) (hb : VR Y c.Z c.φ n b) (e : binop o m n = some r) (g : Go Y l (VRc Y) (.ok r c.H) c Q E) : wpAny Y.M A (binaryOp (realOp o) a b) Q E c.s := by
  cases o with
  | add => exact wp_add k hL ha hb e g
  | mul => exact wp_mul k hL ha hb e g
  | sub =>
    obtain ⟨i, j, rfl, rfl, q⟩ := intz_of e
    obtain ⟨t, rfl⟩ := ha; obtain ⟨u, rfl⟩ := hb; cases q
    exact sub_int (g.tok k _ ⟨_, rfl⟩)
  | fdiv =>
    obtain ⟨i, j, rfl, rfl, q⟩ := intz_of e
    obtain ⟨p, rfl⟩ := of_guard q
    obtain ⟨t, rfl⟩ := ha; obtain ⟨u, rfl⟩ := hb
    obtain ⟨h0, h1⟩ := of_decide_eq_true p
    exact floordiv_int h0 (g.tok k _ ⟨_, rfl⟩) (Or.inl (PyProof.noPylong_small (by omega)))
  | mod =>
    obtain ⟨i, j, rfl, rfl, q⟩ := intz_of e
    obtain ⟨p, rfl⟩ := of_guard q
    obtain ⟨t, rfl⟩ := ha; obtain ⟨u, rfl⟩ := hb
    exact mod_int' (of_decide_eq_true p) (g.tok k _ ⟨_, rfl⟩)
end
theorem any_some {α : Type} {o : Option α} {p : α → Bool} (h : o.any p = true) : ∃ a, o = some a ∧ p a = true := match o, h with | some a, h => ⟨a, rfl, h⟩
mutual
theorem eqv_eq : ∀ (a : MV) {b : MV}, eqv a b = true → a = b
  | .none, _, h => by obtain ⟨_, e⟩ := Option.isSome_iff_exists.mp h; exact (MV.none_of e).symm
  | .bool x, _, h => by obtain ⟨y, e, q⟩ := any_some h; rw [MV.bool_of e, beq_iff_eq.mp q]
  | .int x, _, h => by obtain ⟨y, e, q⟩ := any_some h; rw [MV.int_of e, of_decide_eq_true q]
  | .bytes x, _, h => by obtain ⟨y, e, q⟩ := any_some h; rw [MV.bytes_of e, beq_iff_eq.mp q]
  | .tup x, _, h => by obtain ⟨y, e, q⟩ := any_some h; rw [MV.tup_of e, eqvs_eq x q]
  | .list x, _, h => by obtain ⟨y, e, q⟩ := any_some h; rw [MV.list_of e, eqvs_eq x q]
  | .inst _ _, _, h => nomatch h
  | .obj _, _, h => nomatch h
theorem eqvs_eq : ∀ (a : List MV) {b : List MV}, eqvs a b = true → a = b
  | [], _, h => (List.isEmpty_iff.mp h).symm
  | x :: xs, b, h => by
    obtain ⟨y, e, q⟩ := any_some (and_l h)
    cases b with
    | nil => cases e
    | cons z zs => cases e; rw [eqv_eq x q, eqvs_eq xs (and_r h)]; rfl
end
end Mini
end
noncomputable section
namespace Mini
open PySem PySem.W PySem.Calls PyProof.Rows PySem.SeqAt
theorem rc_bytes (A : Around) (s : Shared) (b : Array UInt8) (t u : Tok) : RcAt A s (.bytes b t) (.bytes b u) true := fun prog w E Q h =>
  eq_bytes (b := b) (c := b) (by simpa using h)
theorem rcNe_bytes (A : Around) (s : Shared) (b : Array UInt8) (t u : Tok) : RcNeAt A s (.bytes b t) (.bytes b u) false := fun prog w E Q h =>
  ne_bytes (b := b) (c := b) (by simpa using h)
theorem eq_bytesAt (A : Around) (s : Shared) (b : Array UInt8) (t u : Tok) : EqAt A s (.bytes b t) (.bytes b u) true := fun prog w E Q hq => by
  unfold eqBool
  refine wpAny_holding ?_
  refine wpAny_ite_split (fun _ => ?_) (fun _ => ?_)
  · exact wpAny_bind (wpAny_rule (wpAny_pure hq))
  · exact wpAny_bind (rc_bytes A s b t u prog w E _ (wpAny_truthy_bool hq))
theorem eq_refs {A : Around} {s : Shared} {x y : Addr} (h : RcAt A s (.ref x) (.ref y) true) : EqAt A s (.ref x) (.ref y) true :=
  if q : x = y then q ▸ EqAt.same _ else EqAt.of_refs q h
structure Eq3 (A : Around) (s : Shared) (a b : Value) : Prop where
  eq : EqAt A s a b true
  rc : RcAt A s a b true
  ne : RcNeAt A s a b false
theorem all_true (n : Nat) : (List.range n).all (fun _ => true) = true := List.all_eq_true.mpr fun _ _ => rfl
theorem lt_in1 {A : Around} {n : Nat} (h : A.units + (n + 1) < cLine) : A.in1.units + n < cLine := by
  have : A.in1.units = A.units + 1 := by simp
  omega
section
variable {Y : Sys} {c : Cf} (k : c.Ok Y)
include k
mutual
theorem eq_val : ∀ (m : MV) (n : Nat) (A : Around) (a b : Value), plain n m = true → A.units + n < cLine → VR Y c.Z c.φ m a → VR Y c.Z c.φ m b → Eq3 A c.s a b
  | .none, _, _, _, _, _, _, ha, hb => by cases ha; cases hb; exact ⟨EqAt.same _, RcAt.none_none, RcNeAt.none_none⟩
  | .bool x, _, A, _, _, _, _, ha, hb => by cases ha; cases hb; exact ⟨EqAt.same _, (beq_self_eq_true x) ▸ RcAt.bool_bool (A := A) (s := c.s) x x, (show (!(x == x)) = false from (beq_self_eq_true x).symm ▸ rfl) ▸ RcNeAt.bool_bool (A := A) (s := c.s) x x⟩
  | .int x, _, A, _, _, _, _, ⟨t, ha⟩, ⟨u, hb⟩ => by cases ha; cases hb; exact ⟨(beq_self_eq_true x) ▸ EqAt.int_int (A := A) (s := c.s) x t x u, (beq_self_eq_true x) ▸ RcAt.int_int (A := A) (s := c.s) x t x u, (show (!(x == x)) = false from (beq_self_eq_true x).symm ▸ rfl) ▸ RcNeAt.int_int (A := A) (s := c.s) x t x u⟩
  | .bytes x, _, _, _, _, _, _, ⟨t, ha, _⟩, ⟨u, hb, _⟩ => by cases ha; cases hb; exact ⟨eq_bytesAt _ _ _ t u, rc_bytes _ _ _ t u, rcNe_bytes _ _ _ t u⟩
  | .tup x, 0, _, _, _, hp, _, _, _ => nomatch hp
  | .tup x, n + 1, A, _, _, hp, hu, ⟨_, vs, ha, ea, va, _⟩, ⟨_, ws, hb, eb, vb, _⟩ => by
    have hs : (vs.toArray.size == ws.toArray.size) = true := beq_iff_eq.mpr (va.length.trans vb.length.symm)
    have he := eqs_val x n A.in1 vs ws hp (lt_in1 hu) va vb
    have R := RcAt.tuples (e := fun _ => true) (k.isTup ea) (k.isTup eb) (Nat.lt_of_le_of_lt (Nat.le_add_right _ _) hu) he
    have R' := RcNeAt.tuples (e := fun _ => true) (k.isTup ea) (k.isTup eb) (Nat.lt_of_le_of_lt (Nat.le_add_right _ _) hu) he
    rw [all_true, hs] at R R'
    cases ha; cases hb; exact ⟨eq_refs R, R, R'⟩
  | .list x, 0, _, _, _, hp, _, _, _ => nomatch hp
  | .list x, n + 1, A, _, _, hp, hu, ⟨_, vs, _, ha, ea, va, _⟩, ⟨_, ws, _, hb, eb, vb, _⟩ => by
    have he := eqs_val x n A.in1 vs ws hp (lt_in1 hu) va vb
    have R := RcAt.lists (e := fun _ => true) (k.isList ea) (k.isList eb) (va.length.trans vb.length.symm) (Nat.lt_of_le_of_lt (Nat.le_add_right _ _) hu) he
    have R' := RcNeAt.lists (e := fun _ => true) (k.isList ea) (k.isList eb) (va.length.trans vb.length.symm) (Nat.lt_of_le_of_lt (Nat.le_add_right _ _) hu) he
    rw [all_true] at R R'
    cases ha; cases hb; exact ⟨eq_refs R, R, R'⟩
  | .inst _ _, n, _, _, _, hp, _, _, _ => by cases n <;> cases hp
  | .obj _, n, _, _, _, hp, _, _, _ => by cases n <;> cases hp
theorem eqs_val : ∀ (ms : List MV) (n : Nat) (A : Around) (vs ws : List Value), ms.all (plain n) = true → A.units + n < cLine → VRs Y c.Z c.φ ms vs → VRs Y c.Z c.φ ms ws → ∀ j (h1 : j < vs.length) (h2 : j < ws.length), EqAt A c.s vs[j] ws[j] true
  | [], _, _, _, _, _, _, ha, _, _, h1, _ => by subst ha; cases h1
  | m :: ms, n, A, _, _, hp, hu, ⟨v, r, ha, va, ra⟩, ⟨w, r', hb, vb, rb⟩, 0, _, _ => by subst ha hb; exact (eq_val m n A v w (and_l hp) hu va vb).eq
  | m :: ms, n, A, _, _, hp, hu, ⟨v, r, ha, va, ra⟩, ⟨w, r', hb, vb, rb⟩, j + 1, h1, h2 => by subst ha hb; exact eqs_val ms n A r r' (and_r hp) hu ra rb j (Nat.lt_of_succ_lt_succ h1) (Nat.lt_of_succ_lt_succ h2)
end
end
theorem tuple_geAt (l m : Addr) (a b p q : Int) (t1 t2 t3 t4 : Tok) (n n2 : Nat) (dd dd2 : Option Addr) (sl sl2 : Array (Option Value)) :
    Meets (Builtin.«tuple.__ge__» ⟨[.ref l, .ref m], []⟩)
      (fun A R s => s.heap.get? l = some { cls := .type "tuple", dict := dd, data := .seq #[.int a t1, .int b t2] n, slots := sl } ∧ s.heap.get? m = some { cls := .type "tuple", dict := dd2, data := .seq #[.int p t3, .int q t4] n2, slots := sl2 } ∧
        R (.ok (.ret (.bool (decide (p < a) || (decide (a = p) && decide (q ≤ b)))))) s) :=
  .of_wp fun prog w A R s h => by
    obtain ⟨hp, g, d, tk, os⟩ := s; obtain ⟨hl, hb, h⟩ := h
    have f2 := AutoSeq1.sub_tuple_tuple
    wp_walk using wpAny_loadPart' hl, wpAny_loadPart' hb, wpAny_forIn_list _ (fun rest b' s' => b'.1 = none ∧ s' = ⟨hp, g, d, tk, os⟩ ∧
      (rest = [(Value.int a t1, Value.int p t3), (.int b t2, .int q t4)] ∨ (rest = [(.int b t2, .int q t4)] ∧ a = p) ∨ (rest = [] ∧ a = p ∧ b = q))) _
    case turn =>
      rintro ⟨y, x⟩ rest b' s' ⟨hb', rfl, hz | ⟨hz, rfl⟩ | ⟨hz, _⟩⟩
      · cases hz
        refine wpAny_bind (EqAt.int_int a t1 p t3 prog w _ _ ?_)
        cases hy : (a == p) with
        | true =>
          wp_walk
          exact ⟨rfl, rfl, .inr (.inl ⟨rfl, by simpa using hy⟩)⟩
        | false =>
          simp only [Bool.not_false, if_true]
          refine wpAny_bind (wpAny_rule (wpAny_bind (ge_int ?_)))
          have hne : a ≠ p := by simpa using hy
          have e : decide (p ≤ a) = (decide (p < a) || (decide (a = p) && decide (q ≤ b))) := by
            rw [Bool.eq_iff_iff]; simp [hne]; omega
          rw [e]
          wp_walk
          exact ⟨_, rfl, h⟩
      · cases hz
        refine wpAny_bind (EqAt.int_int b t2 q t4 prog w _ _ ?_)
        cases hy : (b == q) with
        | true =>
          wp_walk
          exact ⟨rfl, rfl, .inr (.inr ⟨rfl, rfl, by simpa using hy⟩)⟩
        | false =>
          simp only [Bool.not_false, if_true]
          refine wpAny_bind (wpAny_rule (wpAny_bind (ge_int ?_)))
          have e : decide (q ≤ b) = (decide (a < a) || (decide (a = a) && decide (q ≤ b))) := by
            simp
          rw [e]
          wp_walk
          exact ⟨_, rfl, h⟩
      · cases hz
    case fin =>
      rintro ⟨b1, b2⟩ s' ⟨hb', rfl, hz | ⟨hz, _⟩ | ⟨_, rfl, rfl⟩⟩
      · cases hz
      · cases hz
      simp only at hb'
      subst hb'
      wp_walk
      refine ⟨_, rfl, ?_⟩
      have e : Builtin.Tuple.tupleCompareSizes CmpOp.GtE #[Value.int a t1, Value.int b t2].size #[Value.int a t3, Value.int b t4].size = .bool true := rfl
      rw [e]
      simpa using h
    case h =>
      exact ⟨rfl, rfl, .inl rfl⟩
section
variable {Y : Sys} {A : Around} {c : Cf} {Q : Value → Shared → Prop} {E : Value → Shared → Prop} {a b : Value} {m n : MV}
theorem len2 {l : List MV} (h : l.length = 2) : ∃ i j, l = [i, j] := match l, h with | [i, j], _ => ⟨i, j, rfl⟩
theorem pair_of {p : Int × Int} (h : pair? m = some p) (k : c.Ok Y) (ha : VR Y c.Z c.φ m a) : ∃ x t u, a = .ref x ∧ c.s.heap.get? x = some (tupOf #[.int p.1 t, .int p.2 u]) := by
  obtain ⟨l, q, h₁⟩ := of_bind h
  cases MV.tup_of q
  obtain ⟨x, vs, rfl, e, hv, _⟩ := ha
  by_cases h2 : l.length = 2
  · rw [if_pos h2] at h₁
    obtain ⟨i, j, rfl⟩ := len2 h2
    obtain ⟨_, _, rfl, rfl, q₂⟩ := intz_of h₁
    cases q₂
    obtain ⟨_, _, rfl, ⟨t, rfl⟩, _, _, rfl, ⟨u, rfl⟩, rfl⟩ := hv
    exact ⟨x, t, u, rfl, k.inv.z _ _ e⟩
  · rw [if_neg h2] at h₁; cases h₁
theorem wp_cmpop {o : Cp} {r : Bool} (k : c.Ok Y) (ha : VR Y c.Z c.φ m a) (hb : VR Y c.Z c.φ n b) (e : cmpop o m n = some r) (hu : A.units + 20 < cLine) (hQ : Q (.bool r) c.s) : wpAny Y.M A (compareOp (realCp o) a b) Q E c.s := by
  rcases of_or e with e | e
  · obtain ⟨i, j, rfl, rfl, q⟩ := intz_of e
    obtain ⟨t, rfl⟩ := ha; obtain ⟨u, rfl⟩ := hb; cases q
    cases o with
    | eq => exact eq_int hQ
    | ne => exact ne_int hQ
    | lt => exact lt_int hQ
    | le => exact le_int hQ
    | gt => exact gt_int hQ
    | ge => exact ge_int hQ
  · have hu' : A.units + 8 < cLine := Nat.lt_of_le_of_lt (Nat.add_le_add_left (by decide) _) hu
    cases o with
    | eq =>
      obtain ⟨p, rfl⟩ := of_guard e
      cases eqv_eq _ (and_r p)
      exact (eq_val k _ 8 A a b (and_l p) hu' ha hb).rc Y.prog Y.w E Q hQ
    | ne =>
      obtain ⟨p, rfl⟩ := of_guard e
      cases eqv_eq _ (and_r p)
      exact (eq_val k _ 8 A a b (and_l p) hu' ha hb).ne Y.prog Y.w E Q hQ
    | ge =>
      obtain ⟨p, e1, e⟩ := of_bind e
      obtain ⟨q, e2, e⟩ := of_bind e
      obtain ⟨x, t1, t2, rfl, g1⟩ := pair_of e1 k ha
      obtain ⟨y, t3, t4, rfl, g2⟩ := pair_of e2 k hb
      cases e
      exact richCompare_meets_room (op := .GtE) ⟨_, g1, rfl⟩ ⟨_, g2, rfl⟩ F.slot_tuple_ge F.entry_tuple_ge (F.args_tuple_ge_2 _ _) (tuple_geAt x y p.1 p.2 q.1 q.2 t1 t2 t3 t4 0 0 none none #[] #[])
        ⟨g1, g2, show Value.bool _ ≠ Value.notImplemented ∧ Q (.bool _) c.s from ⟨(fun x => nomatch x), hQ⟩⟩ (Nat.lt_of_le_of_lt (Nat.le_add_right _ _) hu)
    | _ => cases e
theorem wp_truth {b : Bool} {Q : Bool → Shared → Prop} (hv : VR Y c.Z c.φ m a) (e : truth m = some b) (h : Q b c.s) : wpAny Y.M A (truthy a) Q E c.s := by
  cases MV.bool_of e; cases hv; exact wpAny_truthy_bool h
theorem vr_none {Z : ZM} {φ : PH} (h : VR Y Z φ m a) : plainIs a .none = true ∧ (a == Value.none) = isNoneV m := by
  cases m with
  | none => cases h; exact ⟨rfl, rfl⟩
  | bool _ => cases h; exact ⟨rfl, rfl⟩
  | int _ => obtain ⟨_, rfl⟩ := h; exact ⟨rfl, rfl⟩
  | bytes _ => obtain ⟨_, rfl, _⟩ := h; exact ⟨rfl, rfl⟩
  | tup _ => obtain ⟨_, _, rfl, _⟩ := h; exact ⟨rfl, rfl⟩
  | list _ => obtain ⟨_, _, _, rfl, _⟩ := h; exact ⟨rfl, rfl⟩
  | inst _ _ => obtain ⟨_, _, _, _, _, _, _, rfl, _⟩ := h; exact ⟨rfl, rfl⟩
  | obj _ => obtain ⟨_, _, rfl, _⟩ := h; exact ⟨rfl, rfl⟩
theorem handed_of {Z : ZM} {φ : PH} (h : VR Y Z φ m a) : handedIn a = true := by
  cases m with
  | none => cases h; rfl
  | bool _ => cases h; rfl
  | int _ => obtain ⟨_, rfl⟩ := h; rfl
  | bytes _ => obtain ⟨_, rfl, _⟩ := h; rfl
  | tup _ => obtain ⟨_, _, rfl, _⟩ := h; rfl
  | list _ => obtain ⟨_, _, _, rfl, _⟩ := h; rfl
  | inst _ _ => obtain ⟨_, _, _, _, _, _, _, rfl, _⟩ := h; rfl
  | obj _ => obtain ⟨_, _, rfl, _⟩ := h; rfl
end
end Mini
end
noncomputable section
namespace Mini
open PySem PySem.W PySem.Calls PyProof.Rows
section
variable {T : Tie}
theorem nameOf_inj (hn : T.names.Nodup) {f g : Nat} (hf : f < T.names.length) (hg : g < T.names.length) (e : nameOf T f = nameOf T g) : f = g := by
  unfold nameOf at e
  rw [List.getD_eq_getElem?_getD, List.getD_eq_getElem?_getD, List.getElem?_eq_getElem hf, List.getElem?_eq_getElem hg] at e
  exact (List.getElem_inj hn).mp e
theorem ents_ref {hs : Str → Int} : ∀ {ns : List Str} {vs : List Value} {es : List DictEntry}, Ents hs ns vs es → es.any (·.refKey) = false
  | _, _, _, .nil => rfl
  | _, _, _, .cons _ r => by rw [List.any_cons, ents_ref r]; rfl
theorem getL_hit {hs : Str → Int} {n : Str} {ns : List Str} {v : Value} {vs : List Value} {es : List DictEntry} (t : Tok) (r : Ents hs ns vs es) : getL n (⟨hs n, .str n t, v⟩ :: es) = some (some v) := by
  unfold getL
  rw [List.find?_cons, show (Value.str n t).isStr n = true from beq_self_eq_true n]
theorem getL_skip {k : Int} {n n' : Str} {v : Value} {es : List DictEntry} {t : Tok} (h : (n == n') = false) : getL n' (⟨k, .str n t, v⟩ :: es) = getL n' es := by
  unfold getL
  rw [List.find?_cons, show (Value.str n t).isStr n' = false from h, List.any_cons]
  rfl
theorem ents_get (hn : T.names.Nodup) {f : Nat} (hf : f < T.names.length) : ∀ {cs : List Nat} {vs : List Value} {es : List DictEntry}, Ents T.hs (cs.map (nameOf T)) vs es → (∀ c ∈ cs, c < T.names.length) →
    (∀ v, vs[cs.findIdx (· == f)]? = some v → getL (nameOf T f) es = some (some v)) ∧ (f ∉ cs → getL (nameOf T f) es = some none)
  | [], _, _, .nil, _ => ⟨fun v e => (nomatch e), fun _ => rfl⟩
  | c :: cs, _, _, .cons t r, hv => by
    have ih := ents_get hn hf r fun c hc => hv c (.tail _ hc)
    rw [List.findIdx_cons]
    cases q : (c == f) with
    | true =>
      cases beq_iff_eq.mp q
      exact ⟨fun x e => (getL_hit t r).trans (congrArg some e), fun m => absurd (.head _) m⟩
    | false =>
      have hne : (nameOf T c == nameOf T f) = false := beq_eq_false_iff_ne.mpr fun e => beq_eq_false_iff_ne.mp q (nameOf_inj hn (hv c (.head _)) hf e)
      rw [getL_skip hne]
      exact ⟨fun x ex => ih.1 x ex, fun m => ih.2 fun z => m (.tail _ z)⟩
theorem fget_some {f : Nat} {v : MV} : ∀ {fs : Flds}, fget f fs = some v → (fs.map (·.2))[(fs.map (·.1)).findIdx (· == f)]? = some v ∧ f ∈ fs.map (·.1)
  | [], h => nomatch h
  | (g, w) :: r, h => by
    unfold fget at h
    rw [List.map_cons, List.map_cons, List.findIdx_cons]
    by_cases q : g = f
    · cases q; rw [if_pos rfl] at h; rw [beq_self_eq_true]; exact ⟨h, .head _⟩
    · rw [if_neg q] at h; rw [beq_eq_false_iff_ne.mpr q]
      exact ⟨(fget_some h).1, .tail _ (fget_some h).2⟩
theorem map_names (fs : Flds) : (fs.map fun f => nameOf T f.1) = (fs.map (·.1)).map (nameOf T) := by rw [List.map_map]; rfl
end
section
variable {Y : Sys} {A : Around} {l : List Env} {c : Cf} {Q : Value → Shared → Prop} {E : Value → Shared → Prop} {v : Value} {m r : MV}
theorem cls_at {i : Nat} {cl : MCls} (e : Y.P.cls[i]? = some cl) {C : Addr} (h : Y.T.cadr[i]? = some C) : ClsOk Y.T cl C := by
  obtain ⟨C', h', CO⟩ := Y.X.clsOk i cl e
  cases h.symm.trans h'; exact CO
structure Has (Y : Sys) (c : Cf) (x dx : Addr) (cl : MCls) (C : Addr) (cs : List Nat) (vs : List Value) (es : List DictEntry) (n : Nat) : Prop where
  co : ClsOk Y.T cl C
  inst : c.Z x = some (instObj C dx)
  get : c.s.heap.get? dx = some (dictOf es n)
  en : Ents Y.T.hs (cs.map (nameOf Y.T)) vs es
  sub : ∀ f ∈ cs, f ∈ cl.flds
theorem Has.inst_at (k : c.Ok Y) {x dx : Addr} {cl : MCls} {C : Addr} {cs : List Nat} {vs : List Value} {es : List DictEntry} {n : Nat} (h : Has Y c x dx cl C cs vs es n) : InstAt c.s.heap x (instObj C dx) C (some (dictOf es n)) := ⟨k.inv.z _ _ h.inst, rfl, rfl, h.get⟩
theorem Has.lt {x dx : Addr} {cl : MCls} {C : Addr} {cs : List Nat} {vs : List Value} {es : List DictEntry} {n : Nat} (h : Has Y c x dx cl C cs vs es n) : ∀ f ∈ cs, f < Y.T.names.length := fun f hf => (h.co.flds f (h.sub f hf)).1
theorem wp_field (k : c.Ok Y) {x dx : Addr} {cl : MCls} {C : Addr} {cs : List Nat} {vs : List Value} {es : List DictEntry} {n : Nat} (h : Has Y c x dx cl C cs vs es n) {f : Nat} {expr : Bool} (hf : f ∈ cs) (e : vs[cs.findIdx (· == f)]? = some v) (hv : handedIn v = true)
    (q : Q v { c.s with toks := c.s.toks + 1 }) : wpAny Y.M A (PySem.getAttr (.ref x) (nameOf Y.T f) expr) Q E c.s := by
  obtain ⟨_, ⟨a, e1, e2⟩, _⟩ := h.co.flds f (h.sub f hf)
  have hp : plainGet Y.T.K C (nameOf Y.T f) = true := h.co.plain
  exact get_value k.kin (h.inst_at k) (plainGet_of hp).1 (findObj_own h.co.dict e1 e2 ((ents_get Y.X.names (h.lt f hf) h.en h.lt).1 v e)) hv q
theorem wp_meth (k : c.Ok Y) {x dx : Addr} {cl : MCls} {C : Addr} {cs : List Nat} {vs : List Value} {es : List DictEntry} {n : Nat} (h : Has Y c x dx cl C cs vs es n) {f mn : Nat} {pl : Sem Bool} {Q : Value × List Value → Shared → Prop} (e : flook mn cl.meths = some f)
    (q : ∀ a, flook f Y.T.fadr = some a → keepIn Y.T.K (.ref a) = true → Q (.ref a, [.ref x]) c.s) : wpAny Y.M A (getMethod (.ref x) (nameOf Y.T mn) pl) Q E c.s := by
  obtain ⟨hlt, hnf, a, e1, e2, e3, e4⟩ := h.co.meths mn f e
  have hp : plainGet Y.T.K C (nameOf Y.T mn) = true := h.co.plain
  exact method_fn k.kin (h.inst_at k) (plainGet_of hp).1 (plainGet_of hp).2 e2 (beq_iff_eq.mp e3) (by show (lookIn _ (dictOf es n)).map _ = _; rw [lookIn_dict, (ents_get Y.X.names hlt h.en h.lt).2 fun z => hnf (h.sub _ z)]; rfl) (q a e1 e4)
theorem has_inst (k : c.Ok Y) {ci : Nat} {ms : List MV} (h : VR Y c.Z c.φ (.inst ci ms) v) {cl : MCls} (e : Y.P.cls[ci]? = some cl) : ∃ x dx C vs es n, v = .ref x ∧ Has Y c x dx cl C cl.flds vs es n ∧ VRs Y c.Z c.φ ms vs := by
  obtain ⟨x, dx, k', C, es, n, vs, rfl, ⟨p1, p2, p3, p4, p5⟩, p6, p7⟩ := h
  cases p1.symm.trans e
  exact ⟨x, dx, C, vs, es, n, rfl, ⟨cls_at e p3, p4, k.inv.z _ _ p5, p6, fun _ h => h⟩, p7⟩
theorem has_obj (k : c.Ok Y) {i : Nat} (h : VR Y c.Z c.φ (.obj i) v) {o : MObj} (ho : c.H[i]? = some o) {cl : MCls} (e : Y.P.cls[o.c]? = some cl) : ∃ x dx C vs es n, v = .ref x ∧ Has Y c x dx cl C (o.fs.map (·.1)) vs es n ∧ VRs Y c.Z c.φ (o.fs.map (·.2)) vs ∧ c.Mu dx = some (.st (dictOf es n)) ∧ c.φ[i]? = some (x, dx) := by
  obtain ⟨x, dx, rfl, p⟩ := h
  obtain ⟨x', dx', es, n, vs, p', O⟩ := k.hr.obj i o ho
  cases p.symm.trans p'
  obtain ⟨C, I⟩ := O.own e
  exact ⟨x, dx, C, vs, es, n, rfl, ⟨cls_at e I.adr, I.inst, st_at (k.inv.m _ _ O.mu), map_names o.fs ▸ O.en, fun f hf => by obtain ⟨p, hp, rfl⟩ := List.mem_map.mp hf; exact I.flds p hp⟩, O.vr, O.mu, p⟩
theorem findIdx_mem {cs : List Nat} {f : Nat} {ms : List MV} (hl : ms.length = cs.length) (e : ms[cs.findIdx (· == f)]? = some r) : f ∈ cs := by
  have h := (List.getElem?_eq_some_iff.mp e).1
  rw [hl] at h
  have := List.findIdx_getElem (w := h)
  exact beq_iff_eq.mp this ▸ List.getElem_mem h
theorem wp_getAttr (k : c.Ok Y) {f : Nat} {expr : Bool} (hv : VR Y c.Z c.φ m v) (e : Mini.getAttr Y.P m f c.H = some r) (g : Go Y l (VRc Y) (.ok r c.H) c Q E) : wpAny Y.M A (PySem.getAttr v (nameOf Y.T f) expr) Q E c.s := by
  rcases of_or e with e | e
  · obtain ⟨p, q, e₁⟩ := of_bind e
    cases MV.inst_of q
    obtain ⟨cl, hcl, e₂⟩ := of_bind e₁
    cases hr : cl.record with
    | false => rw [hr] at e₂; cases e₂
    | true =>
    rw [hr] at e₂
    obtain ⟨x, dx, C, vs, es, n, rfl, h, hvs⟩ := has_inst k hv hcl
    obtain ⟨w, e1, e2⟩ := hvs.get e₂
    exact wp_field k h (findIdx_mem (by rw [← hvs.length, h.en.length.2, List.length_map]) e₂) e1 (handed_of e2) (g.tok k _ e2)
  · obtain ⟨i, q, e₁⟩ := of_bind e
    cases MV.obj_of q
    obtain ⟨o, ho, e₂⟩ := of_bind e₁
    obtain ⟨cl, hcl, e₃⟩ := of_bind e₂
    cases hr : cl.record with
    | true => rw [hr] at e₃; cases e₃
    | false =>
    rw [hr] at e₃
    obtain ⟨x, dx, C, vs, es, n, rfl, h, hvs, _⟩ := has_obj k hv ho hcl
    obtain ⟨q1, q2⟩ := fget_some e₃
    obtain ⟨w, e1, e2⟩ := hvs.get q1
    exact wp_field k h q2 e1 (handed_of e2) (g.tok k _ e2)
theorem wp_method (k : c.Ok Y) {f mn : Nat} {pl : Sem Bool} {Q : Value × List Value → Shared → Prop} (hv : VR Y c.Z c.φ m v) (e : methOf Y.P m mn c.H = some f)
    (q : ∀ a, flook f Y.T.fadr = some a → keepIn Y.T.K (.ref a) = true → Q (.ref a, [v]) c.s) : wpAny Y.M A (getMethod v (nameOf Y.T mn) pl) Q E c.s := by
  obtain ⟨ci, hc, e₁⟩ := of_bind e
  obtain ⟨cl, hcl, e₂⟩ := of_bind e₁
  rcases of_or hc with hc | hc
  · obtain ⟨p, hp, rfl⟩ := Option.map_eq_some_iff.mp hc
    cases MV.inst_of hp
    obtain ⟨x, dx, C, vs, es, n, rfl, h, _⟩ := has_inst k hv hcl
    exact wp_meth k h e₂ q
  · obtain ⟨i, hi, hc₁⟩ := of_bind hc
    cases MV.obj_of hi
    obtain ⟨o, ho, rfl⟩ := Option.map_eq_some_iff.mp hc₁
    obtain ⟨x, dx, C, vs, es, n, rfl, h, _⟩ := has_obj k hv ho hcl
    exact wp_meth k h e₂ q
theorem wp_item {a : Addr} {vs : List Value} {xs : List MV} {i : Int} {t : Tok} {j : Nat} (hl : c.s.heap.IsList a vs.toArray)
    (hv : VRs Y c.Z c.φ xs vs) (hz : xs.length ≤ 10000000) (hp : place xs.length i = some j) (hr : xs[j]? = some r) (h : ∀ v, VR Y c.Z c.φ r v → Q v c.s) :
    wpAny Y.M A (getItem (.ref a) (.int i t)) Q E c.s := by
  obtain ⟨v, e, hv'⟩ := hv.get hr
  have hlen := hv.length
  have hj : j < xs.length := (List.getElem?_eq_some_iff.mp hr).1
  unfold place at hp
  by_cases h0 : 0 ≤ i
  · rw [if_pos h0] at hp; cases hp
    exact wpAny_getItem_list hl h0 (by omega) (by simpa using e) (h v hv')
  · rw [if_neg h0] at hp
    obtain ⟨p, rfl⟩ := of_guard hp
    have h1 := of_decide_eq_true p
    refine wpAny_getItem_list_neg hl (Int.not_le.mp h0) (by rw [List.size_toArray, hlen]; omega) (by omega) ?_ (h v hv')
    simpa [hlen] using e
theorem sub_plain {s : Expr} {o i : Value} (h : noSlice s = true) : subscripted s false o i = operate [o, i] (getItem o i) := by
  cases s <;> first | rfl | cases h
theorem wp_idx {x s : Expr} {o i : Value} {m j : MV} (k : c.Ok Y) (hs : noSlice s = true) (ho : VR Y c.Z c.φ m o) (hi : VR Y c.Z c.φ j i)
    (e : idxO m j = some r) (g : Go Y l (VRc Y) (.ok r c.H) c Q E) : wpAny Y.M A (subscriptTail x s o i) Q E c.s := by
  obtain ⟨jj, q, e₁⟩ := of_bind e
  cases MV.int_of q
  obtain ⟨t, rfl⟩ := hi
  rcases of_or e₁ with e₂ | e₂
  · obtain ⟨xs, q, e₃⟩ := of_bind e₂
    cases MV.list_of q
    obtain ⟨n, hp, hx⟩ := of_bind e₃
    obtain ⟨a, vs, _, rfl, ea, va, na⟩ := ho
    exact tail_any (k.isList ea).typeIs slot_list_getitem.lookup (wp_item (k.isList ea) va na hp hx fun v hv => g.here k hv) (sub_plain hs)
  · obtain ⟨xs, q, e₃⟩ := of_bind e₂
    cases MV.tup_of q
    obtain ⟨a, vs, rfl, ea, va, na⟩ := ho
    by_cases h0 : 0 ≤ jj
    · rw [if_pos h0] at e₃
      obtain ⟨y, e1, e2⟩ := va.get e₃
      have hl := va.length
      have hj := (List.getElem?_eq_some_iff.mp e₃).1
      refine item_tupleT (l := vs) (k.isTup ea) (by omega) (by omega) (j := jj.toNat) ?_ e1 (g.here k e2) (sub_plain hs)
      have hn : ¬ jj < 0 := by omega
      simp [seqIndex?, hn, h0, hl]; omega
    · rw [if_neg h0] at e₃; cases e₃
theorem wp_Subscript {env : Env} {x s : Expr} {pos : Pos} {st : Shared}
    (h : wpAny Y.M A (eval x env) (fun o s₁ => wpAny Y.M A (eval s env) (fun i s₂ => wpAny Y.M A (subscriptTail x s o i) Q E s₂) E s₁) E st) :
    wpAny Y.M A (eval (.Subscript x s pos) env) Q E st := by
  rw [arm_eval_Subscript]
  exact wpAny_bind (wpAny_mono h (fun o s₁ h₁ => wpAny_bind (wpAny_holding (wpAny_mono h₁ (fun i s₂ h₂ => wpAny_bind (wpAny_standAt h₂)) fun _ _ x => x))) fun _ _ x => x)
noncomputable def PartIs (lo : Nat → Option Nat) (d : Bool) (v : Value) (i : Option Int) : Prop := IsPart v i ∧ ∀ n, lo n = some (i.elim (if d then n else 0) (bound n))
theorem part_lo : PartIs (fun _ => some 0) false .none none := ⟨.none, fun _ => rfl⟩
theorem part_hi : PartIs some true .none none := ⟨.none, fun _ => rfl⟩
theorem wp_slice {x : Expr} {lo hi : Option Expr} {p : Pos} {vl vu o : Value} {fl fu : Nat → Option Nat} {il iu : Option Int} (k : c.Ok Y)
    (ho : VR Y c.Z c.φ m o) (pl : PartIs fl false vl il) (pu : PartIs fu true vu iu) (e : sliceO m fl fu = some r)
    (g : ∀ {h : Heap} {a : Addr} {xs : List MV} {vs : List Value}, r = .list xs → VRs Y c.Z c.φ xs vs → xs.length ≤ 10000000 → c.s.heap.objs.size ≤ a → (∀ b o, c.s.heap.get? b = some o → h.get? b = some o) → h.get? a = some (listOf vs.toArray 0) → Q (.ref a) { c.s with heap := h }) :
    wpAny Y.M A (newFields "slice" [vl, vu, .none]) (fun i s₂ => wpAny Y.M A (subscriptTail x (.Slice lo hi none p) o i) Q E s₂) E c.s := by
  obtain ⟨xs, q, e₁⟩ := of_bind e
  cases MV.list_of q
  rw [pl.2, Option.bind_some, pu.2, Option.map_some] at e₁
  cases e₁
  obtain ⟨a, vs, n, rfl, ea, va, na⟩ := ho
  refine wpAny_newObj_type ?_
  have hl : (c.s.heap.push { cls := .type "slice", data := .fields #[vl, vu, .none] }).IsList a vs.toArray := ⟨_, Heap.get?_push_of_some _ (k.inv.z _ _ ea), rfl, n, rfl⟩
  refine tail_any (s := { c.s with heap := c.s.heap.push { cls := .type "slice", data := .fields #[vl, vu, .none] } }) hl.typeIs slot_list_getitem.lookup ?_ rfl
  have hlen := va.length
  refine wpAny_getItem_list_slice hl ⟨_, Heap.get?_push_size _ rfl, rfl, rfl⟩ pl.1 pu.1 .none (by intro z; cases z) ?_ (by rw [List.size_toArray, hlen]; exact line_ok na)
  rw [slicePick_plain]
  have q : ∀ (x : Option Int) (d : Nat), x.elim d (clipAt vs.toArray.size) = x.elim d (bound xs.length) := fun x d => by
    cases x with
    | none => rfl
    | some i => exact congrArg (bound · i) hlen
  have e1 : ((vs.toArray.toList.drop (il.elim 0 (clipAt vs.toArray.size))).take (iu.elim vs.toArray.size (clipAt vs.toArray.size) - il.elim 0 (clipAt vs.toArray.size))) =
      (vs.take (iu.elim xs.length (bound xs.length))).drop (il.elim 0 (bound xs.length)) := by
    rw [q, q, List.drop_take, List.size_toArray, hlen]
  rw [e1]
  refine g rfl ((va.take _).drop _) ?_ ?_ (fun _ _ e => Heap.get?_push_of_some _ (Heap.get?_push_of_some _ e)) (Heap.get?_push_size _ rfl)
  · unfold cut; rw [List.length_drop, List.length_take]; exact Nat.le_trans (Nat.sub_le _ _) (Nat.le_trans (Nat.min_le_right _ _) na)
  · show c.s.heap.objs.size ≤ (c.s.heap.push _).objs.size
    rw [Heap.size_push]; exact Nat.le_succ _
end
end Mini
end
noncomputable section
namespace Mini
open PySem PySem.W PySem.Calls PyProof.Rows
theorem starEach_cons {x : Expr} {xs : List Expr} {env : Env} (h : noStar x = true) : starEach (x :: xs) env = (false, eval x env) :: starEach xs env := by
  cases x <;> first | rfl | cases h
theorem backTo_cons {p : Pos} {x : Expr} {xs : List Expr} {env : Env} (h : noStar x = true) : backTo p (starEach (x :: xs) env) = (false, eval x env) :: backTo p (starEach xs env) := by
  rw [starEach_cons h]; rfl
noncomputable def NoStars (xs : List Expr) : Prop := ∀ x ∈ xs, noStar x = true
theorem NoStars.cons {x : Expr} {xs : List Expr} (h : noStar x = true) (r : NoStars xs) : NoStars (x :: xs) := fun y hy => (List.mem_cons.mp hy).elim (fun e => e ▸ h) (r y)
theorem NoStars.nil : NoStars [] := fun _ h => nomatch h
theorem backTo_plain {p : Pos} {env : Env} : ∀ {xs : List Expr}, NoStars xs → (backTo p (starEach xs env)).any (·.1) = false
  | [], _ => rfl
  | x :: xs, h => by rw [backTo_cons (h x (.head _)), List.any_cons, backTo_plain fun y hy => h y (.tail _ hy)]; rfl
section
variable {Y : Sys} {A : Around} {l : List Env} {c : Cf} {Q : Value → Shared → Prop} {E : Value → Shared → Prop} {v : Value} {m r : MV}
theorem wp_callWith {f : Value} {first : List Value} {p : Pos} {xs : List Expr} {env : Env} {s : Shared} {PH : Heap → Prop} (hn : NoStars xs)
    (hk : ∀ h, PH h → ∃ k, (k = Keeper.frame ∨ k = Keeper.machine ∨ k = Keeper.boundFrame) ∧ Looks Y.M h (keeperOf f) k)
    (h : wpAny Y.M A (spliced (backTo p (starEach xs env))) (fun vs s₁ => PH s₁.heap ∧ wpAny Y.M A (call f (first ++ vs)) Q E s₁) E s) :
    wpAny Y.M A (callWith p f first (backTo p (starEach xs env)) []) Q E s := by
  refine callWith_of (by rw [backTo_plain hn]; rfl) hk ?_
  cases xs with
  | nil => exact fun Γ p hΓ => h Γ p hΓ
  | cons x xs =>
    rw [backTo_cons (hn x (.head _))] at h ⊢
    exact evalArgs_plain h
theorem wp_callBlt {f : Value} {p : Pos} {xs : List Expr} {env : Env} {s : Shared} (hn : NoStars xs) (hf : keeperOf f = keeperOf (.builtin "len"))
    (h : wpAny Y.M A (spliced (backTo p (starEach xs env))) (fun vs s₁ => wpAny Y.M A (call f vs) Q E s₁) E s) :
    wpAny Y.M A (callWith p f [] (backTo p (starEach xs env)) []) Q E s :=
  wp_callWith (PH := fun _ => True) hn (fun _ _ => ⟨.machine, .inr (.inl rfl), hf ▸ Looks.of_pure rfl⟩) (wpAny_mono h (fun _ _ h₁ => ⟨trivial, h₁⟩) fun _ _ x => x)
theorem wp_callRef {a : Addr} {first : List Value} {p : Pos} {xs : List Expr} {env : Env} {s : Shared} (hn : NoStars xs) (hf : keepIn Y.T.K (.ref a) = true)
    (h : wpAny Y.M A (spliced (backTo p (starEach xs env))) (fun vs s₁ => Y.T.K.In s₁.heap ∧ wpAny Y.M A (call (.ref a) (first ++ vs)) Q E s₁) E s) :
    wpAny Y.M A (callWith p (.ref a) first (backTo p (starEach xs env)) []) Q E s :=
  wp_callWith (PH := fun h => Y.T.K.In h) hn (keeps_K hf) h
theorem blt_len (k : c.Ok Y) (hv : VR Y c.Z c.φ m v) (e : lenO m = some r) (g : Go Y l (VRc Y) (.ok r c.H) c Q E) : wpAny Y.M A (call (.builtin "len") [v]) Q E c.s := by
  rcases of_or e with e | e
  · obtain ⟨xs, q, rfl⟩ := Option.map_eq_some_iff.mp e
    cases MV.list_of q
    obtain ⟨a, vs, n, rfl, ea, va, na⟩ := hv
    refine call_len_list (k.isList ea) (Int.ofNat_lt.mpr (Nat.lt_of_le_of_lt (va.length ▸ na : vs.length ≤ _) (by decide))) (g.tok k (c.s.toks + 1 + 1) ⟨c.s.toks + 1, ?_⟩)
    exact congrArg (fun z : Nat => Value.int z _) va.length
  · obtain ⟨xs, q, rfl⟩ := Option.map_eq_some_iff.mp e
    cases MV.bytes_of q
    obtain ⟨t, rfl, _, hz⟩ := hv
    have hl : (xs.map UInt8.ofNat).toArray.size = xs.length := by rw [List.size_toArray, List.length_map]
    refine len_bytes (hl ▸ Nat.le_trans hz (by decide)) (g.tok k (c.s.toks + 1 + 1) ⟨c.s.toks + 1, ?_⟩)
    exact congrArg (fun z : Nat => Value.int z _) hl
theorem blt_lenM {a : Addr} {vs : List Value} {n : Nat} {xs : List MV} (k : c.Ok Y) (e : c.Mu a = some (.ex (listOf vs.toArray n))) (hv : VRs Y c.Z c.φ xs vs) (hl : xs.length ≤ 2000) (g : Go Y l (VRc Y) (.ok (.int xs.length) c.H) c Q E) :
    wpAny Y.M A (call (.builtin "len") [.ref a]) Q E c.s :=
  call_len_list (k.isListM e) (Int.ofNat_lt.mpr (Nat.lt_of_le_of_lt (hv.length ▸ hl : vs.length ≤ _) (by decide))) (g.tok k (c.s.toks + 1 + 1) ⟨c.s.toks + 1, congrArg (fun z : Nat => Value.int z _) hv.length⟩)
variable {L : Addr} {fm : Str → Option Value}
theorem blt_min {i j : Int} {t u : Tok} (k : c.Ok Y) (hL : c.Mu L = some (.fr fm)) (hh : A.handled = none) (g : Go Y l (VRc Y) (.ok (.int (if j < i then j else i)) c.H) c Q E) : wpAny Y.M A (call (.builtin "min") [.int i t, .int j u]) Q E c.s :=
  min_two_N hh (k.fr hL) (k.news L) fun _ tk F' N' => g.led k hL tk F'.ns (led_get N' fun _ h => h) ⟨_, rfl⟩
theorem blt_max {i j : Int} {t u : Tok} (k : c.Ok Y) (hL : c.Mu L = some (.fr fm)) (hh : A.handled = none) (g : Go Y l (VRc Y) (.ok (.int (if i < j then j else i)) c.H) c Q E) : wpAny Y.M A (call (.builtin "max") [.int i t, .int j u]) Q E c.s :=
  max_two_N hh (k.fr hL) (k.news L) fun _ tk F' N' => g.led k hL tk F'.ns (led_get N' fun _ h => h) ⟨_, rfl⟩
theorem intsOf_are {Z : ZM} {φ : PH} : ∀ {xs : List MV} {vs : List Value} {is : List Int}, VRs Y Z φ xs vs → intsOf xs = some is → IntsAre vs is
  | [], _, _, h, q => by cases h; cases q; exact .nil
  | x :: xs, _, _, ⟨v, r, h, a, b⟩, q => by
    obtain ⟨i, q1, q2⟩ := of_bind q
    obtain ⟨js, q3, rfl⟩ := Option.map_eq_some_iff.mp q2
    cases MV.int_of q1
    obtain ⟨t, rfl⟩ := a
    exact h ▸ .cons i t (intsOf_are b q3)
theorem maxI_mem : ∀ (l : List Int) (m : Int), maxI m l ∈ m :: l ∧ ∀ a ∈ m :: l, a ≤ maxI m l
  | [], m => ⟨.head _, fun a h => (List.mem_singleton.mp h).symm ▸ Int.le_refl _⟩
  | x :: r, m => by
    unfold maxI
    obtain ⟨h1, h2⟩ := maxI_mem r (if m < x then x else m)
    by_cases q : m < x
    · rw [if_pos q] at h1 h2 ⊢
      refine ⟨.tail _ h1, fun a h => ?_⟩
      rcases List.mem_cons.mp h with rfl | h
      · exact Int.le_trans (Int.le_of_lt q) (h2 x (.head _))
      · exact h2 a h
    · rw [if_neg q] at h1 h2 ⊢
      refine ⟨?_, fun a h => ?_⟩
      · rcases List.mem_cons.mp h1 with e | h1
        · exact List.mem_cons.mpr (.inl e)
        · exact .tail _ (.tail _ h1)
      · rcases List.mem_cons.mp h with rfl | h
        · exact h2 a (.head _)
        · rcases List.mem_cons.mp h with rfl | h
          · exact Int.le_trans (Int.not_lt.mp q) (h2 m (.head _))
          · exact h2 a (.tail _ h)
theorem blt_max1 (k : c.Ok Y) (hL : c.Mu L = some (.fr fm)) (hh : A.handled = none) (hv : VR Y c.Z c.φ m v) (e : m.list?.bind maxO = some r) (g : Go Y l (VRc Y) (.ok r c.H) c Q E) : wpAny Y.M A (call (.builtin "max") [v]) Q E c.s := by
  obtain ⟨xs, q, e₁⟩ := of_bind e
  cases MV.list_of q
  obtain ⟨is, q1, e₂⟩ := of_bind e₁
  obtain ⟨a, vs, n, rfl, ea, va, na⟩ := hv
  cases is with
  | nil => cases e₂
  | cons i is =>
    cases e₂
    refine max_list_N hh (k.fr hL) (k.news L) (k.isList ea) (intsOf_are va q1) (Nat.succ_pos _) fun h' M t tk F' N' hm hle => g.led k hL tk F'.ns (led_get N' fun _ h => h) ⟨t, ?_⟩
    obtain ⟨h1, h2⟩ := maxI_mem is i
    exact congrArg (Value.int · t) (Int.le_antisymm (h2 M hm) (hle _ h1))
theorem blt_tuple {xs : List MV} (k : c.Ok Y) (hv : VR Y c.Z c.φ (.list xs) v) (g : Go Y l (VRc Y) (.ok (.tup xs) c.H) c Q E) : wpAny Y.M A (call (.type "tuple") [v]) Q E c.s := by
  obtain ⟨a, vs, n, rfl, ea, va, na⟩ := hv
  refine call_tuple_list (k.isList ea) (fun h' hk => ?_) (line_ok (va.length ▸ na : vs.length ≤ _))
  exact g.tup k _ (Heap.get?_push_size _ rfl) ((k.heap c.s.toks hk).free (Nat.le_refl _)) (fun b o _ e => Heap.get?_push_of_some _ (hk b o e)) va na
theorem blt_bytes (k : c.Ok Y) (hv : VR Y c.Z c.φ m v) (e : m.list?.bind byteO = some r) (hh : A.handled = none) (g : Go Y l (VRc Y) (.ok r c.H) c Q E) : wpAny Y.M A (call (.type "bytes") [v]) Q E c.s := by
  obtain ⟨xs, q, e₁⟩ := of_bind e
  cases MV.list_of q
  unfold byteO at e₁
  by_cases h1 : xs.length = 1
  · obtain ⟨x, rfl⟩ := List.length_eq_one_iff.mp h1
    rw [if_pos h1] at e₁
    obtain ⟨i, q1, e₂⟩ := of_bind (o := x.int?) e₁
    cases MV.int_of q1
    obtain ⟨p, rfl⟩ := of_guard e₂
    obtain ⟨h0, h2⟩ := of_decide_eq_true p
    obtain ⟨a, _, n, rfl, ea, ⟨_, _, rfl, ⟨t, rfl⟩, rfl⟩, na⟩ := hv
    refine call_bytes_ints (ns := [i]) (k.isList ea) (.cons i t .nil) (fun n hn => List.mem_singleton.mp hn ▸ ⟨h0, h2⟩) (line_ok (by decide : 1 ≤ 10000000)) hh fun h' t' tk hk => g.heap k tk hk ⟨t', rfl, fun x hx => List.mem_singleton.mp hx ▸ by omega, (by decide : 1 ≤ 10000000)⟩
  · rw [if_neg h1] at e₁; cases e₁
end
end Mini
end
noncomputable section
namespace Mini
open PySem PySem.W PySem.Calls PyProof.Rows
structure ItL (Y : Sys) (c : Cf) (o : Obj) (xs : List MV) (a : Addr) (vs : List Value) (n i : Nat) : Prop where
  cls : o.cls = .type "list_iterator"
  data : o.data = .fields #[.ref a, .int i 0]
  z : c.Z a = some (listOf vs.toArray n)
  vr : VRs Y c.Z c.φ xs (vs.drop i)
noncomputable def rangeIt (x : Int) (n : Nat) : Obj := { cls := .type "range_iterator", dict := none, data := .fields #[rawInt x, rawInt n, rawInt 1], slots := #[] }
noncomputable def rangeL (x : Int) (n : Nat) : List MV := (List.range n).map fun (k : Nat) => .int (x + k)
noncomputable def ItO (Y : Sys) (c : Cf) (o : Obj) (xs : List MV) : Prop := (∃ a vs n i, ItL Y c o xs a vs n i) ∨ ∃ x n, o = rangeIt x n ∧ xs = rangeL x n
structure Iter (Y : Sys) (c : Cf) (it : Addr) (xs : List MV) (o : Obj) : Prop where
  mu : c.Mu it = some (.ex o)
  o : ItO Y c o xs
theorem ItO.mono {Y : Sys} {c c' : Cf} {o : Obj} {xs : List MV} (s : StB c c') : ItO Y c o xs → ItO Y c' o xs
  | .inl ⟨a, vs, n, i, h⟩ => .inl ⟨a, vs, n, i, h.cls, h.data, s.z _ _ h.z, VRs.mono s.z s.p _ h.vr⟩
  | .inr h => .inr h
theorem Iter.step {Y : Sys} {c c' : Cf} {it : Addr} {xs : List MV} {o : Obj} (s : Step c c') (h : Iter Y c it xs o) : Iter Y c' it xs o := ⟨s.keep rfl h.mu, h.o.mono s.toStB⟩
theorem ItO.flds {Y : Sys} {c : Cf} {o : Obj} {xs : List MV} : ItO Y c o xs → ∃ vs, o.data = .fields vs
  | .inl ⟨_, _, _, _, h⟩ => ⟨_, h.data⟩
  | .inr ⟨_, _, h, _⟩ => h ▸ ⟨_, rfl⟩
theorem ItO.notL {Y : Sys} {c : Cf} {o : Obj} {xs : List MV} (h : ItO Y c o xs) {vs : Array Value} {n : Nat} : o ≠ listOf vs n := fun q => by
  obtain ⟨_, e⟩ := h.flds; rw [q] at e; cases e
theorem Iter.neD {Y : Sys} {c : Cf} {it D : Addr} {xs : List MV} {o : Obj} (h : Iter Y c it xs o) {vs : Array Value} {n : Nat} (e : c.Mu D = some (.ex (listOf vs n))) : it ≠ D := fun q => h.o.notL (MC.ex.inj (Option.some.inj ((h.mu.symm.trans (q ▸ e)))))
  where MC.ex.inj {a b : Obj} (h : MC.ex a = .ex b) : a = b := by cases h; rfl
theorem fr_ne_ex {m : Str → Option Value} {o : Obj} {f : MU} {a b : Addr} (e : f a = some (.ex o)) (e' : f b = some (.fr m)) : a ≠ b := fun q => by rw [q, e'] at e; cases e
theorem range_cons (x : Int) (n : Nat) : rangeL x (n + 1) = .int x :: rangeL (x + 1) n := by
  unfold rangeL
  rw [List.range_succ_eq_map, List.map_cons, List.map_map]
  refine congr (congrArg List.cons (congrArg MV.int (Int.add_zero x))) (List.map_congr_left fun k _ => congrArg MV.int ?_)
  show x + ((k + 1 : Nat) : Int) = x + 1 + k
  omega
section
variable {Y : Sys} {A : Around} {l : List Env} {c : Cf} {E : Value → Shared → Prop} {it : Addr} {v : MV} {xs : List MV} {o : Obj}
theorem wp_next {Q : Option Value → Shared → Prop} (k : c.Ok Y) (h : Iter Y c it (v :: xs) o)
    (q : ∀ r o' hp tk, (c.setM it (some (.ex o')) hp tk).Ok Y → VR Y c.Z c.φ v r → ItO Y c o' xs → Q (some r) (c.setM it (some (.ex o')) hp tk).s) : wpAny Y.M A (pyNext (.ref it)) Q E c.s := by
  obtain ⟨mu, ⟨a, vs, n, i, cls, data, z, r, rest, hd, hr, hrest⟩ | ⟨x, n, rfl, hx⟩⟩ := h
  · have hi : vs[i]? = some r := by rw [← List.head?_drop, hd]; rfl
    refine wpAny_pyNext_list_item ⟨o, ex_at (k.inv.m _ _ mu), cls, data⟩ (k.isList z) (by simpa using hi) fun h' ⟨o', g1, g2, g3⟩ hs => ?_
    refine q r o' h' c.s.toks (k.setM _ (k.un mu rfl) (fun b x n e => (hs.2 b n).trans e) fun y hy => Option.some.inj hy ▸ at_ex g1) hr (.inl ⟨a, vs, n, i + 1, g2, g3, z, ?_⟩)
    rw [← List.tail_drop, hd]; exact hrest
  · cases n with
    | zero => cases hx
    | succ n =>
      rw [range_cons] at hx
      cases hx
      refine wpAny_pyNext_range_item (ex_at (k.inv.m _ _ mu)) (Int.ofNat_lt.mpr (Nat.succ_pos n)) fun h' hit hs => ?_
      have e : ((n + 1 : Nat) : Int) - 1 = n := Int.add_sub_cancel n 1
      rw [e] at hit
      exact q _ (rangeIt (x + 1) n) h' (c.s.toks + 1) (k.setM _ (k.un mu rfl) (fun b x n e => (hs.2 b n).trans e) fun y hy => Option.some.inj hy ▸ at_ex hit) ⟨_, rfl⟩ (.inr ⟨x + 1, n, rfl, rfl⟩)
theorem wp_next_end {Q : Option Value → Shared → Prop} (k : c.Ok Y) (h : Iter Y c it [] o) (hh : A.handled = none)
    (q : ∀ hp, (c.setM it none hp c.s.toks).Ok Y → Q none (c.setM it none hp c.s.toks).s) : wpAny Y.M A (pyNext (.ref it)) Q E c.s := by
  obtain ⟨mu, ⟨a, vs, n, i, cls, data, z, hd⟩ | ⟨x, n, rfl, hx⟩⟩ := h
  · have hi : vs[i]? = none := by rw [← List.head?_drop, hd]; rfl
    exact wpAny_pyNext_list_end hh ⟨o, ex_at (k.inv.m _ _ mu), cls, data⟩ (k.isList z) (by simpa using hi) fun h' hs => q h' (k.setM _ (k.un mu rfl) hs fun _ hy => nomatch hy)
  · cases n with
    | zero => exact wpAny_pyNext_range_end hh (ex_at (k.inv.m _ _ mu)) (Int.le_refl 0) fun h' hs => q h' (k.setM _ (k.un mu rfl) hs fun _ hy => nomatch hy)
    | succ n => rw [range_cons] at hx; cases hx
noncomputable def ItR (Y : Sys) (c₀ : Cf) (c' : Cf) (v : Value) (xs : List MV) : Prop := ∃ it o, v = .ref it ∧ Iter Y c' it xs o ∧ c₀.Mu it = none
variable {Q : Value → Shared → Prop} {c₀ : Cf} {a : Value}
theorem mk_iter (k : c.Ok Y) (s : Step c₀ c) {o : Obj} {h : Heap} {tk : Nat} (e : ∀ b x, c.s.heap.get? b = some x → h.get? b = some x) (ha : h.get? c.s.heap.objs.size = some o) (i : ItO Y c o xs) (g : Go Y l (ItR Y c₀) (.ok xs c.H) c Q E) : Q (.ref c.s.heap.objs.size) { c.s with heap := h, toks := tk } :=
  have f := k.free (Nat.le_refl _)
  g.ok (c.setM c.s.heap.objs.size (some (.ex o)) h tk) _ xs (k.setM tk (un_free f) (fun b x _ q => e b x q) fun y hy => Option.some.inj hy ▸ at_ex ha) ((Step.refl c).setM f.2) rfl
    ⟨_, o, rfl, ⟨upd_self .., ItO.mono (c := c) ⟨ZLe.refl, PLe.refl, rfl⟩ i⟩, (fresh_step s f).2⟩
theorem iter_list (k : c.Ok Y) (s : Step c₀ c) (hv : VR Y c.Z c.φ (.list xs) a) (g : Go Y l (ItR Y c₀) (.ok xs c.H) c Q E) : wpAny Y.M A (pyIter a) Q E c.s := by
  obtain ⟨a, vs, n, rfl, ea, va, na⟩ := hv
  exact wpAny_pyIter_list (k.isList ea) (mk_iter k s (fun _ _ e => Heap.get?_push_of_some _ e) (Heap.get?_push_size _ rfl) (.inl ⟨a, vs, n, 0, rfl, rfl, ea, va⟩) g)
theorem iter_range {r : Addr} {i j : Int} {t u v : Tok} (k : c.Ok Y) (s : Step c₀ c) (hr : IsRange c.s.heap r i j 1 t u v) (hi : i.natAbs ≤ 1000000) (hj : j.natAbs ≤ 1000000) (g : Go Y l (ItR Y c₀) (.ok (rangeV i j) c.H) c Q E) :
    wpAny Y.M A (pyIter (.ref r)) Q E c.s := by
  have hs : Builtin.Range.rangeSize i j 1 = ((j - i).toNat : Int) := by
    unfold Builtin.Range.rangeSize
    simp only [show (1 : Int) > 0 from by decide, if_true]
    split
    · rw [Int.ediv_one]; omega
    · omega
  refine wpAny_pyIter_range hr ?_ ?_
  · unfold Builtin.Range.small Builtin.Range.rangeFitsLong
    rw [hs]
    simp only [Bool.and_eq_true, decide_eq_true_eq, Bool.or_eq_true]
    refine ⟨⟨⟨⟨⟨?_, ?_⟩, ⟨?_, ?_⟩⟩, ⟨?_, ?_⟩⟩, ⟨?_, ?_⟩⟩, .inr ?_⟩ <;> first | omega | (simp only [show (1 : Int) > 0 from by decide, if_true, Bool.and_eq_true, decide_eq_true_eq]; omega)
  · rw [hs]
    exact mk_iter k s (fun _ _ e => Heap.get?_push_of_some _ e) (Heap.get?_push_size _ rfl) (.inr ⟨i, (j - i).toNat, rfl, rfl⟩) g
variable {L : Addr} {fm : Str → Option Value}
theorem Go.heapI {m : List MV} (g : Go Y l (ItR Y c₀) (.ok m c.H) c Q E) (h : Heap) (tk : Nat) : Go Y l (ItR Y c₀) (.ok m (c.heap h tk).H) (c.heap h tk) Q E :=
  ⟨g.nb, fun c' v b k s => g.ok c' v b k ((Step.heap c h tk).trans s), fun c' k e a C B a0 o s => g.ex c' k e a C B a0 o ((Step.heap c h tk).trans s)⟩
theorem blt_range2 {i j : Int} {t u : Tok} (k : c.Ok Y) (s : Step c₀ c) (hL : c.Mu L = some (.fr fm)) (hi : i.natAbs ≤ 1000000) (hj : j.natAbs ≤ 1000000) (g : Go Y l (ItR Y c₀) (.ok (rangeV i j) c.H) c Q E) :
    wpAny Y.M A (call (.type "range") [.int i t, .int j u]) (fun x s₁ => wpAny Y.M A (pyIter x) Q E s₁) E c.s :=
  range2_rows (k.fr hL) (k.news L) fun h' tk _ _ _ hr _ _ hk => iter_range (c := c.heap h' tk) (k.heap tk hk) (s.trans (Step.heap c h' tk)) hr hi hj (g.heapI h' tk)
theorem blt_range1 {n : Int} {t : Tok} (k : c.Ok Y) (s : Step c₀ c) (hL : c.Mu L = some (.fr fm)) (hn : n.natAbs ≤ 1000000) (g : Go Y l (ItR Y c₀) (.ok (rangeV 0 n) c.H) c Q E) :
    wpAny Y.M A (call (.type "range") [.int n t]) (fun x s₁ => wpAny Y.M A (pyIter x) Q E s₁) E c.s :=
  range1_rows (k.fr hL) (k.news L) fun h' tk _ _ _ hr _ _ hk => iter_range (c := c.heap h' tk) (k.heap tk hk) (s.trans (Step.heap c h' tk)) hr (by decide) hn (g.heapI h' tk)
theorem ints_vrs {Z : ZM} {φ : PH} {vs : List Value} {is : List Int} (h : IntsAre vs is) : VRs Y Z φ (is.map .int) vs := by
  induction h with
  | nil => rfl
  | cons n t _ ih => exact ⟨.int n t, _, rfl, ⟨t, rfl⟩, ih⟩
theorem blt_sorted {m : MV} (k : c.Ok Y) (s : Step c₀ c) (hL : c.Mu L = some (.fr fm)) (hv : VR Y c.Z c.φ m a) (e : (m.list?.bind fun xs => (intsOf xs).bind fun is => guardO (decide (is.length ≤ 1)) (is.map MV.int)) = some xs) (g : Go Y l (ItR Y c₀) (.ok xs c.H) c Q E) :
    wpAny Y.M A (call (.builtin "sorted") [a]) (fun x s₁ => wpAny Y.M A (pyIter x) Q E s₁) E c.s := by
  obtain ⟨ys, q, e₁⟩ := of_bind e
  cases MV.list_of q
  obtain ⟨is, q1, e₂⟩ := of_bind e₁
  obtain ⟨p, rfl⟩ := of_guard e₂
  have h1 := of_decide_eq_true p
  obtain ⟨a, vs, n, rfl, ea, va, na⟩ := hv
  have hI := intsOf_are va q1
  refine sorted_N (k.fr hL) (k.news L) (k.isList ea) hI (Nat.lt_of_le_of_lt (hI.length ▸ h1 : vs.length ≤ 1) (by decide)) fun h' vs' ns' z F' N' hI' hp _ => ?_
  have hns : ns' = is := match is, h1, hp with
    | [], _, hp => hp.eq_nil
    | [x], _, hp => List.perm_singleton.mp hp
  subst hns
  have p := k.ledZ hL c.s.toks F'.ns (led_get N' fun p hp => .tail _ hp) (N' _ (.head _)).1 (Nat.le_succ _)
  refine iter_list (l := l) (c := c.setZ (c.s.heap.objs.size + 1) (listOf vs'.toArray z) h' c.s.toks) p.1 (s.trans p.2) ⟨_, vs', z, rfl, upd_self .., ints_vrs hI', by rw [List.length_map]; exact Nat.le_trans h1 (by decide)⟩ ?_
  exact ⟨g.nb, fun c' v b k s => g.ok c' v b k (p.2.trans s), fun c' k e a C B a0 o s => g.ex c' k e a C B a0 o (p.2.trans s)⟩
end
end Mini
end
noncomputable section
namespace Mini
open PySem PySem.W PySem.Calls PyProof.Rows
theorem lookup_hit {α : Type} {x : Str} {v : α} {r : List (Str × α)} : ((x, v) :: r).lookup x = some v := by rw [List.lookup_cons, beq_self_eq_true]
theorem lookup_skip {α : Type} {x y : Str} {v : α} {r : List (Str × α)} (h : x ≠ y) : ((y, v) :: r).lookup x = r.lookup x := by rw [List.lookup_cons, beq_eq_false_iff_ne.mpr h]
theorem lookup_mem {α : Type} {x : Str} {v : α} : ∀ {l : List (Str × α)}, l.lookup x = some v → (x, v) ∈ l
  | (n, k) :: r, h => if q : x = n then by subst q; rw [lookup_hit] at h; cases h; exact .head _ else by rw [lookup_skip q] at h; exact .tail _ (lookup_mem h)
theorem lookup_nodup {α : Type} : ∀ {l : List (Str × α)}, (l.map (·.1)).Nodup → ∀ {p : Str × α}, p ∈ l → l.lookup p.1 = some p.2
  | (n, k) :: r, h, p, hp => by
    have h := List.nodup_cons.mp h
    rcases List.mem_cons.mp hp with rfl | hp
    · exact lookup_hit
    · rw [lookup_skip fun e => h.1 (List.mem_map.mpr ⟨p, hp, e⟩)]; exact lookup_nodup h.2 hp
theorem lookup_map (f : Str → NameKind → NameKind) (x : Str) : ∀ (l : List (Str × NameKind)), (l.map fun p => (p.1, f p.1 p.2)).lookup x = (l.lookup x).map (f x)
  | [] => rfl
  | (n, k) :: r => by
    rw [List.map_cons]
    by_cases q : x = n
    · subst q; rw [lookup_hit, lookup_hit]; rfl
    · rw [lookup_skip q, lookup_skip q, lookup_map f x r]
abbrev cloStep (env : Env) : Str × NameKind → List (Str × Addr) → Sem (ForInStep (List (Str × Addr))) := fun x cs => match x with | (name, kind) => if (kind == .free) = true then cellOf env name >>= fun a => pure (ForInStep.yield ((name, a) :: cs)) else pure (ForInStep.yield cs)
theorem closure_go (env : Env) : ∀ (names : List (Str × NameKind)) (acc : List (Str × Addr)), (∀ p ∈ names, p.2 = .free → ∃ a, env.cells.lookup p.1 = some a) → (names.map (·.1)).Nodup →
    ∃ cl, (forIn names acc (cloStep env)) = (pure cl : Sem (List (Str × Addr))) ∧ (∀ p ∈ names, p.2 = .free → cl.lookup p.1 = env.cells.lookup p.1) ∧ ∀ x, (∀ p ∈ names, p.1 ≠ x) → cl.lookup x = acc.lookup x
  | [], acc, _, _ => ⟨acc, rfl, (fun _ h => nomatch h), fun _ _ => rfl⟩
  | (n, k) :: r, acc, hf, hd => by
    have hd := List.nodup_cons.mp hd
    have hn : ∀ p ∈ r, p.1 ≠ n := fun p hp e => hd.1 (List.mem_map.mpr ⟨p, hp, e⟩)
    by_cases q : (k == .free) = true
    · obtain ⟨a, ea⟩ := hf (n, k) (.head _) (beq_iff_eq.mp q)
      obtain ⟨cl, e1, e2, e3⟩ := closure_go env r ((n, a) :: acc) (fun p hp => hf p (.tail _ hp)) hd.2
      refine ⟨cl, ?_, fun p hp hk => ?_, fun x hx => (e3 x fun p hp => hx p (.tail _ hp)).trans (lookup_skip fun e => hx (n, k) (.head _) e.symm)⟩
      · rw [List.forIn_cons]
        have h1 : cellOf env n = pure a := by unfold cellOf; simp only at ea; rw [ea]
        have h2 : cloStep env (n, k) acc = pure (ForInStep.yield ((n, a) :: acc)) := (if_pos q).trans (by rw [h1]; rfl)
        rw [h2]
        exact e1
      · rcases List.mem_cons.mp hp with rfl | hp
        · exact ((e3 n hn).trans lookup_hit).trans ea.symm
        · exact e2 p hp hk
    · obtain ⟨cl, e1, e2, e3⟩ := closure_go env r acc (fun p hp => hf p (.tail _ hp)) hd.2
      refine ⟨cl, ?_, fun p hp hk => ?_, fun x hx => e3 x fun p hp => hx p (.tail _ hp)⟩
      · rw [List.forIn_cons]
        have h2 : cloStep env (n, k) acc = pure (ForInStep.yield acc) := if_neg q
        rw [h2]
        exact e1
      · rcases List.mem_cons.mp hp with rfl | hp
        · exact absurd (beq_iff_eq.mpr hk) q
        · exact e2 p hp hk
theorem closure_of {scope : Scope} {env : Env} (hf : ∀ p ∈ scope.names, p.2 = .free → ∃ a, env.cells.lookup p.1 = some a) (hd : (scope.names.map (·.1)).Nodup) :
    ∃ cl, closureFor scope env = pure cl ∧ ∀ p ∈ scope.names, p.2 = .free → cl.lookup p.1 = env.cells.lookup p.1 := by
  obtain ⟨cl, e1, e2, _⟩ := closure_go env scope.names [] hf hd
  refine ⟨cl, ?_, e2⟩
  show ((forIn scope.names ([] : List (Str × Addr)) (cloStep env)) >>= fun s => (pure s : Sem (List (Str × Addr)))) = _
  rw [e1]
  rfl
structure CompFacts (sc : SC) (scope : Scope) (y : Str) (x : Nat) : Prop where
  kind : scope.kind = .function
  yl : scope.names.lookup y = some .local
  y0 : y ≠ dot0
  vars : ∀ p ∈ sc.vars, p.2 ≠ x
  names : ∀ p ∈ scope.names, (p.2 = .local ∧ (p.1 = y ∨ p.1 = dot0)) ∨ p.2 = .globalImplicit ∨ (p.2 = .free ∧ sc.names.lookup p.1 = some .cell)
  nodup : (scope.names.map (·.1)).Nodup
  zero : sc.vars.lookup dot0 = none
theorem or_of {a b : Bool} (h : (a || b) = true) : a = true ∨ b = true := Bool.or_eq_true_iff.mp h
theorem compFacts {sc : SC} {scope : Scope} {y : Str} {x : Nat} (h : compOk sc scope y x = true) : CompFacts sc scope y x :=
  have h0 := and_r h; have h := and_l h; have h6 := and_r h; have h := and_l h; have h5 := and_r h; have h := and_l h; have h4 := and_r h; have h := and_l h
  ⟨beq_iff_eq.mp (and_l (and_l h)), beq_iff_eq.mp (and_r (and_l h)), beq_eq_false_iff_ne.mp (not_t (and_r h)), fun p hp => bne_iff_ne.mp (List.all_eq_true.mp h4 p hp),
    fun p hp => (or_of (List.all_eq_true.mp h5 p hp)).elim (fun q => (or_of q).elim (fun q => .inl ⟨beq_iff_eq.mp (and_l q), (or_of (and_r q)).imp beq_iff_eq.mp beq_iff_eq.mp⟩) fun q => .inr (.inl (beq_iff_eq.mp q))) fun q => .inr (.inr ⟨beq_iff_eq.mp (and_l q), beq_iff_eq.mp (and_r q)⟩),
    of_decide_eq_true h6, Option.isNone_iff_eq_none.mp h0⟩
theorem inner_lookup (sc : SC) (names : List (Str × NameKind)) (y : Str) (x : Nat) (z : Str) : (sc.inner names y x).names.lookup z = (names.lookup z).map (innerK sc z) := lookup_map (innerK sc) z names
inductive InK (sc : SC) (y z : Str) : NameKind → NameKind → Prop
  | var : z = y → InK sc y z .local .local
  | zero : z = dot0 → InK sc y z .local .local
  | glob : InK sc y z .globalImplicit .globalImplicit
  | cell : z ≠ y → sc.names.lookup z = some .cell → InK sc y z .free .cell
theorem inner_kind {sc : SC} {scope : Scope} {y : Str} {x : Nat} (F : CompFacts sc scope y x) {z : Str} {k : NameKind} (h : (sc.inner scope.names y x).names.lookup z = some k) : ∃ k₀, scope.names.lookup z = some k₀ ∧ InK sc y z k₀ k := by
  rw [inner_lookup] at h
  obtain ⟨k₀, q, rfl⟩ := Option.map_eq_some_iff.mp h
  refine ⟨k₀, q, ?_⟩
  rcases F.names _ (lookup_mem q) with ⟨a, b | b⟩ | a | ⟨a, b⟩
  · cases a; exact .var b
  · cases a; exact .zero b
  · cases a; exact .glob
  · cases a
    have e : innerK sc z .free = .cell := by unfold innerK; rw [show sc.names.lookup z = some .cell from b]; rfl
    rw [e]; exact .cell (fun e => by rw [e, F.yl] at q; cases q) b
theorem relabel_names {env : Env} {sc : SC} (V : EnvOk env sc) (scope : Scope) (y : Str) (x : Nat) : (relabel scope env).names = (sc.inner scope.names y x).names := by
  unfold relabel SC.inner innerK
  simp only
  apply List.map_congr_left
  intro p _
  obtain ⟨n, k⟩ := p
  simp only
  have h1 : (env.scope.kind == ScopeKind.function) = true := by rw [V.kind]; rfl
  rw [h1, V.k n]
  simp only [Bool.true_and, Bool.and_true]
  split <;> rfl
noncomputable def compEnv (env : Env) (scope : Scope) (L : Addr) (cl : List (Str × Addr)) : Env :=
  { newEnv scope L env.globals cl env.qual none .none (some env) builtinsNs with scope := relabel scope env }
section
variable {Y : Sys} {A : Around} {l : List Env} {env : Env} {sc : SC} {scope : Scope} {y : Str} {x : Nat}
theorem compEnv_ok (V : EnvOk env sc) (F : CompFacts sc scope y x) (L : Addr) (cl : List (Str × Addr)) : EnvOk (compEnv env scope L cl) (sc.inner scope.names y x) := by
  refine ⟨relabel_names V scope y x, F.kind, V.glob, V.blt, fun h => ?_⟩
  obtain ⟨k₀, _, i⟩ := inner_kind F ((congrArg (List.lookup _) (relabel_names V scope y x)).symm.trans h)
  cases i
theorem lget_set_ne (loc : Loc) {i j : Nat} (v : LV) (h : j ≠ i) : lget (loc.set i v) j = lget loc j := by
  unfold lget; rw [List.getD_eq_getElem?_getD, List.getD_eq_getElem?_getD, List.getElem?_set_ne (Ne.symm h)]
theorem lget_set (loc : Loc) (i : Nat) (v : LV) : lget (loc.set i v) i = v ∨ lget (loc.set i v) i = .un := by
  unfold lget
  rw [List.getD_eq_getElem?_getD]
  by_cases hx : i < loc.length
  · rw [List.getElem?_set_self hx]; exact .inl rfl
  · rw [List.getElem?_eq_none (by rw [List.length_set]; exact Nat.le_of_not_lt hx)]; exact .inr rfl
theorem slot_of {sc : SC} {z : Str} {i : Nat} (h : sc.slot z = some i) : (∃ k, sc.names.lookup z = some k ∧ (k = .local ∨ k = .cell ∨ k = .free)) ∧ (z == dbg) = false ∧ sc.vars.lookup z = some i := by
  have hd := slot_dbg h
  unfold SC.slot at h
  split at h
  · rename_i q
    refine ⟨?_, hd, h⟩
    rcases or_of (and_l q) with q | q
    · rcases or_of q with q | q
      · exact ⟨_, beq_iff_eq.mp q, .inl rfl⟩
      · exact ⟨_, beq_iff_eq.mp q, .inr (.inl rfl)⟩
    · exact ⟨_, beq_iff_eq.mp q, .inr (.inr rfl)⟩
  · cases h
theorem slot_cell {sc : SC} {z : Str} {i : Nat} (h : sc.names.lookup z = some .cell) (hd : (z == dbg) = false) (hv : sc.vars.lookup z = some i) : sc.slot z = some i := by
  unfold SC.slot SC.isOwn
  rw [h, hd, if_pos (by rw [show ((some NameKind.cell) == some NameKind.cell) = true from rfl, Bool.or_true, Bool.true_or]; rfl)]; exact hv
theorem compEnv_loc (V : EnvOk env sc) (F : CompFacts sc scope y x) {L : Addr} {cl : List (Str × Addr)} {c : Cf} {loc : Loc} {m : Str → Option Value} {rv : Value} {v : MV}
    (hcl : ∀ p ∈ scope.names, p.2 = .free → cl.lookup p.1 = env.cells.lookup p.1) (hl : LocR Y env sc loc c) (hm : c.Mu L = some (.fr m)) (hy : m y = some rv) (hv : VR Y c.Z c.φ v rv) :
    LocR Y (compEnv env scope L cl) (sc.inner scope.names y x) (loc.set x (.val v)) c := by
  intro z i hz hu
  obtain ⟨⟨k, hk, hkk⟩, hd, hvars⟩ := slot_of hz
  obtain ⟨k₀, q, ik⟩ := inner_kind F hk
  have K := ((compEnv_ok V F L cl).k z).trans hk
  cases ik with
  | var e =>
    subst e
    cases (lookup_hit (r := sc.vars)).symm.trans hvars
    rcases lget_set loc x (.val v) with e | e
    · exact ⟨rv, .inl ⟨K, m, hm, hy⟩, e.symm ▸ hv⟩
    · exact absurd e hu
  | zero e =>
    subst e
    cases ((lookup_skip (Ne.symm F.y0)).trans F.zero).symm.trans hvars
  | glob => rcases hkk with h | h | h <;> cases h
  | cell hne b =>
    have hvars : sc.vars.lookup z = some i := (lookup_skip hne).symm.trans hvars
    have hlg := lget_set_ne loc (.val v) (F.vars (z, i) (lookup_mem hvars))
    rw [hlg] at hu ⊢
    obtain ⟨r, hs, hr⟩ := hl z i (slot_cell b hd hvars) hu
    refine ⟨r, .inr ⟨.inl K, ?_⟩, hr⟩
    rcases hs with ⟨kd, _⟩ | ⟨_, a, e1, e2⟩
    · cases ((V.k z).trans b).symm.trans kd
    · exact ⟨a, (hcl _ (lookup_mem q) rfl).trans e1, e2⟩
theorem compEnv_cells (F : CompFacts sc scope y x) {L : Addr} {cl : List (Str × Addr)}
    (hcl : ∀ p ∈ scope.names, p.2 = .free → cl.lookup p.1 = env.cells.lookup p.1) (hc : ∀ z, sc.names.lookup z = some .cell → ∃ a, env.cells.lookup z = some a) :
    ∀ z, (sc.inner scope.names y x).names.lookup z = some .cell → ∃ a, (compEnv env scope L cl).cells.lookup z = some a := fun z hz => by
  obtain ⟨k₀, q, ik⟩ := inner_kind F hz
  cases ik with
  | cell hne b =>
    obtain ⟨d, e⟩ := hc z b
    exact ⟨d, (hcl _ (lookup_mem q) rfl).trans e⟩
abbrev testsOf (ifs : List Expr) (cenv : Env) : Sem Bool := forIn ifs true fun c r => if r = true then do let ok ← isTrue c cenv (eval c cenv); pure (ForInStep.yield ok) else pure (ForInStep.yield r)
noncomputable def Turn (Y : Sys) (A : Around) (c : Cf) (cenv : Env) (ifs : List Expr) (elt : Expr) (y : Str) (g : MV → MH → RS (Option MV)) : Prop :=
  ∀ (c' : Cf) (rv : Value) (v : MV) (m : Str → Option Value) (r : Option MV) (H : MH) (E : Value → Shared → Prop) (Q₁ : Value → Shared → Prop) (Q₂ : Shared → Prop), c'.Ok Y → Step c c' → c'.Mu cenv.locals = some (.fr m) → m y = some rv → VR Y c'.Z c'.φ v rv → g v c'.H = .ok r H →
    (∀ c₂ x mv, c₂.Ok Y → Step c' c₂ → r = some mv → H = c₂.H → VR Y c₂.Z c₂.φ mv x → Q₁ x c₂.s) → (∀ c₂, c₂.Ok Y → Step c' c₂ → r = none → H = c₂.H → Q₂ c₂.s) →
    wpAny Y.M A (testsOf ifs cenv) (fun ok s₃ => if ok = true then wpAny Y.M A (eval elt cenv) Q₁ E s₃ else Q₂ s₃) E c'.s
structure LoopI (Y : Sys) (c c' : Cf) (g : MV → MH → RS (Option MV)) (tgt : RS (List MV)) (L D it : Addr) (rest don : List MV) (dvs : List Value) (dn : Nat) (m : Str → Option Value) (o : Obj) : Prop where
  ok : c'.Ok Y
  st : Step c c'
  it : Iter Y c' it rest o
  fr : c'.Mu L = some (.fr m)
  acc : c'.Mu D = some (.ex (listOf dvs.toArray dn))
  vr : VRs Y c'.Z c'.φ don dvs
  eq : ((mapR g rest c'.H).bind fun ws H => .ok (don ++ ws) H) = tgt
  le : don.length + rest.length ≤ 1000
theorem RS.assoc {α β γ : Type} (r : RS α) (f : α → MH → RS β) (g : β → MH → RS γ) : (r.bind f).bind g = r.bind fun a H => (f a H).bind g := by cases r <;> rfl
theorem mapR_cons {g : MV → MH → RS (Option MV)} {v : MV} {r : List MV} {H : MH} {f : List MV → MH → RS (List MV)} (h : (mapR g (v :: r) H).bind f ≠ .bad) : ∃ o H₁, g v H = .ok o H₁ := by
  unfold mapR at h
  cases q : g v H with
  | ok o H => exact ⟨o, H, rfl⟩
  | ex _ _ => rw [q] at h; exact absurd rfl h
  | bad => rw [q] at h; exact absurd rfl h
theorem comp_loop {cenv : Env} {elt iter : Expr} {yp : Pos} {ifs : List Expr} {scope : Scope} {pos : Pos} {D it : Addr} {c c₁ : Cf} {g : MV → MH → RS (Option MV)} {tgt : RS (List MV)} {vs : List MV} {m₀ : Str → Option Value} {n₀ : Nat} {o : Obj}
    {R : Result → Shared → Prop} (hk : cenv.kindOf y = some .local) (hkind : cenv.scope.kind = .function) (hh : A.handled = none) (body : Turn Y A c cenv ifs elt y g)
    (f1 : c.Mu cenv.locals = none) (f2 : c.Mu D = none) (f3 : c.Mu it = none) (I₀ : LoopI Y c c₁ g tgt cenv.locals D it vs [] [] n₀ m₀ o) (hb : tgt ≠ .bad)
    (done : ∀ c' ws m dvs n, c'.Ok Y → Step c c' → tgt = .ok ws c'.H → c'.Mu cenv.locals = some (.fr m) → c'.Mu D = some (.ex (listOf (dvs : List Value).toArray n)) → VRs Y c'.Z c'.φ ws dvs → ws.length ≤ 1000 → R (.ok .next) c'.s) :
    codeAny Y.M A (.compLoop (.ListComp elt [⟨.Name y yp, iter, ifs, 0⟩] scope pos) 0 (.ref it) (.ref D) cenv) R c₁.s := by
  refine codeAny_compLoop_tests (fun n s => ∃ rest don c' dvs dn m o, (rest : List MV).length = n ∧ c'.s = s ∧ LoopI Y c c' g tgt cenv.locals D it rest don dvs dn m o) (fun n s hI => ?_) vs.length ⟨vs, [], c₁, [], n₀, m₀, o, rfl, rfl, I₀⟩
  obtain ⟨rest, don, c', dvs, dn, m, o, rfl, rfl, I⟩ := hI
  cases rest with
  | nil =>
    refine wp_next_end I.ok I.it hh fun hp ok' => ?_
    exact done (c'.setM it none hp c'.s.toks) don m dvs dn ok' (I.st.setM f3) (I.eq.symm.trans (by rw [mapR]; exact congrArg (RS.ok · _) (List.append_nil _))) ((Cf.setM_ne (Ne.symm (fr_ne_ex I.it.mu I.fr))).trans I.fr) ((Cf.setM_ne (Ne.symm (I.it.neD I.acc))).trans I.acc) I.vr I.le
  | cons v rest =>
    obtain ⟨ro, Hr, hg⟩ := mapR_cons (fun e => hb (I.eq.symm.trans e))
    refine wp_next I.ok I.it fun r o' hp tk ok2 hr hI2 => ?_
    refine wpAny_assign_Name (wpAny_storeName_local hk (ok2.ns ((Cf.setM_ne (Ne.symm (fr_ne_ex I.it.mu I.fr))).trans I.fr)) (fun h' hns hsb => ?_) (by rw [hkind]; rfl))
    have ok3 := ok2.setM (x := some (.fr (fun z => if z = y then some r else m z))) (tk + 1) (ok2.un ((Cf.setM_ne (Ne.symm (fr_ne_ex I.it.mu I.fr))).trans I.fr) rfl) (fun b x n e => (hsb.2 b n).trans e) fun z hz => Option.some.inj hz ▸ at_fr hns
    have st3 := (I.st.setM (x := some (.ex o')) (h := hp) (tk := tk) f3).setM (x := some (.fr (fun z => if z = y then some r else m z))) (h := h') (tk := tk + 1) f1
    have it3 : Iter Y ((c'.setM it (some (.ex o')) hp tk).setM cenv.locals (some (.fr (fun z => if z = y then some r else m z))) h' (tk + 1)) it rest o' :=
      ⟨(Cf.setM_ne (fr_ne_ex I.it.mu I.fr)).trans (Cf.setM_m ..), ItO.mono (c := c') ⟨ZLe.refl, PLe.refl, rfl⟩ hI2⟩
    have acc3 : ((c'.setM it (some (.ex o')) hp tk).setM cenv.locals (some (.fr (fun z => if z = y then some r else m z))) h' (tk + 1)).Mu D = some (.ex (listOf dvs.toArray dn)) :=
      (Cf.setM_ne (fr_ne_ex I.acc I.fr)).trans ((Cf.setM_ne (Ne.symm (I.it.neD I.acc))).trans I.acc)
    have fr3 : ((c'.setM it (some (.ex o')) hp tk).setM cenv.locals (some (.fr (fun z => if z = y then some r else m z))) h' (tk + 1)).Mu cenv.locals = some (.fr (fun z => if z = y then some r else m z)) := Cf.setM_m ..
    refine wpAny_mono (body ((c'.setM it (some (.ex o')) hp tk).setM cenv.locals (some (.fr (fun z => if z = y then some r else m z))) h' (tk + 1)) r v _ ro Hr _ _ _ ok3 st3 fr3 (if_pos rfl) hr hg (fun c₂ x mv k2 t2 e1 e2 hx => ?_) fun c₂ k2 t2 e1 e2 => ?_) (fun _ _ h => h) fun _ _ h => h
    · subst e1 e2
      have hd2 := t2.keep rfl acc3
      have hv2 := VRs.mono t2.z t2.p don I.vr
      have hle : (don ++ [mv]).length + rest.length ≤ 1000 := by rw [List.length_append, Nat.add_assoc, Nat.add_comm [mv].length]; exact I.le
      have hz : dvs.length ≤ 999 := hv2.length ▸ Nat.le_of_succ_le_succ (Nat.le_trans (by rw [List.length_append]; exact Nat.le_add_right _ _) hle)
      refine wpAny_list_append_plain ⟨dn, ex_at (k2.inv.m _ _ hd2)⟩ (fun h4 ⟨n4, hp4⟩ hs4 => ?_) (line_ok (Nat.le_trans (m := 999) hz (by decide)))
      have ok4 := k2.setM (x := some (.ex (listOf (dvs ++ [x]).toArray n4))) c₂.s.toks (k2.un hd2 rfl) (fun b x n e => (hs4.2 b n).trans e) fun z hz => Option.some.inj hz ▸ at_ex (hp4.trans (by rw [List.push_toArray]))
      have ne := I.it.neD I.acc
      refine ⟨rest.length, Nat.lt_succ_self _, rest, don ++ [mv], c₂.setM D (some (.ex (listOf (dvs ++ [x]).toArray n4))) h4 c₂.s.toks, dvs ++ [x], n4, _, o', rfl, rfl, ok4, (st3.trans t2).setM f2,
        ⟨(Cf.setM_ne ne).trans (it3.step t2).mu, ItO.mono (c := c₂) ⟨ZLe.refl, PLe.refl, rfl⟩ (it3.step t2).o⟩, (Cf.setM_ne (Ne.symm (fr_ne_ex I.acc I.fr))).trans (t2.keep rfl fr3), Cf.setM_m .., hv2.append ⟨x, [], rfl, hx, rfl⟩, ?_, hle⟩
      rw [← I.eq, mapR]
      show _ = (RS.bind (match g v c'.H with | .ok (some w) H₁ => (mapR g rest H₁).bind fun ws H₂ => .ok (w :: ws) H₂ | .ok Option.none H₁ => mapR g rest H₁ | _ => .bad) _)
      rw [show g v c'.H = .ok (some mv) c₂.H from hg]
      show (mapR g rest c₂.H).bind _ = ((mapR g rest c₂.H).bind _).bind _
      rw [RS.assoc]
      exact congrArg _ (funext fun ws => funext fun H => congrArg (RS.ok · H) (List.append_assoc don [mv] ws))
    · subst e1 e2
      refine ⟨rest.length, Nat.lt_succ_self _, rest, don, c₂, dvs, dn, _, o', rfl, rfl, k2, st3.trans t2, it3.step t2, t2.keep rfl fr3, t2.keep rfl acc3, VRs.mono t2.z t2.p don I.vr, ?_, Nat.le_trans (Nat.add_le_add_left (Nat.le_succ _) _) I.le⟩
      rw [← I.eq, mapR]
      show _ = (RS.bind (match g v c'.H with | .ok (some w) H₁ => (mapR g rest H₁).bind fun ws H₂ => .ok (w :: ws) H₂ | .ok Option.none H₁ => mapR g rest H₁ | _ => .bad) _)
      rw [show g v c'.H = .ok none c₂.H from hg]
end
end Mini
end
noncomputable section
namespace Mini
open PySem PySem.W PySem.Calls PyProof.Rows
noncomputable def compR (ri : RS (List MV)) (g : MV → MH → RS (Option MV)) : RS MV := ri.bind fun vs H => if 1000 < vs.length then RS.bad else (mapR g vs H).bind fun ws H => .ok (MV.list ws) H
section
variable {Y : Sys} {A : Around} {l : List Env} {env : Env} {sc : SC} {scope : Scope} {y : Str} {x : Nat} {c : Cf} {Q : Value → Shared → Prop} {E : Value → Shared → Prop}
noncomputable def SI (Y : Sys) (A : Around) (l : List Env) (iter : Expr) (env : Env) (ri : RS (List MV)) (c : Cf) : Prop := ∀ Q E, Go Y l (ItR Y c) ri c Q E → wpAny Y.M A (eval iter env) (fun xv s₁ => wpAny Y.M A (pyIter xv) Q E s₁) E c.s
variable {elt iter : Expr} {yp : Pos} {ifs : List Expr} {pos p₁ : Pos} {ri : RS (List MV)} {g : MV → MH → RS (Option MV)} {use : Option (Value → Sem Unit)} {cl : List (Str × Addr)} {vs : List MV} {H₁ : MH} {it D L : Addr} {o : Obj}
noncomputable def CompFin (Y : Sys) (A : Around) (c : Cf) (ri : RS (List MV)) (g : MV → MH → RS (Option MV)) (use : Option (Value → Sem Unit)) (Q : Value → Shared → Prop) (E : Value → Shared → Prop) : Prop :=
  ∀ c' D ws m L, c'.Ok Y → Step c c' → compR ri g = .ok (.list ws) c'.H → VR Y c'.Z c'.φ (.list ws) (.ref D) → c'.Mu L = some (.fr m) → c.Mu L = none → compPost Y.M A E use Q (.ref D) L (.ok .next) c'.s
theorem comp_in {c₃ : Cf} (V : EnvOk env sc) (F : CompFacts sc scope y x) (hh : A.handled = none) (body : Turn Y A c (compEnv env scope L cl) ifs elt y g)
    (er : compR ri g = (mapR g vs c₃.H).bind fun ws H => .ok (MV.list ws) H) (hb : compR ri g ≠ .bad) (hle : vs.length ≤ 1000) (fin : CompFin Y A c ri g use Q E)
    (k : c₃.Ok Y) (t : Step c c₃) (i : Iter Y c₃ it vs o) (fi : c.Mu it = none) (hD : c₃.Mu D = some (.ex (listOf #[] 0))) (fD : c.Mu D = none) (hL : c₃.Mu L = some (.fr fun _ => none)) (fL : c.Mu L = none) :
    codeAny Y.M A (.compStart (.ListComp elt [⟨.Name y yp, iter, ifs, 0⟩] scope pos) 0 (.ref it) (.ref D) (compEnv env scope L cl)) (compPost Y.M A E use Q (.ref D) L) c₃.s := by
  have KY : (compEnv env scope L cl).kindOf y = some .local := ((compEnv_ok V F L cl).k y).trans (by rw [inner_lookup, F.yl]; rfl)
  have main : codeAny Y.M A (.compLoop (.ListComp elt [⟨.Name y yp, iter, ifs, 0⟩] scope pos) 0 (.ref it) (.ref D) (compEnv env scope L cl)) (compPost Y.M A E use Q (.ref D) L) c₃.s := by
    refine comp_loop (c := c) (g := g) (tgt := mapR g vs c₃.H) KY F.kind hh body fL fD fi ⟨k, t, i, hL, hD, rfl, by cases mapR g vs c₃.H <;> rfl, by rw [List.length_nil, Nat.zero_add]; exact hle⟩ (fun e => hb (er.trans (by rw [e]; rfl))) ?_
    intro c' ws m dvs n k' t' e' l' d' v' z'
    have u := k'.un d' rfl
    have kf := k'.setZ (o := listOf dvs.toArray n) (h := c'.s.heap) c'.s.toks u (fun _ _ _ e => e) (ex_at (k'.inv.m _ _ d'))
    exact fin (c'.setZ D (listOf dvs.toArray n) c'.s.heap c'.s.toks) D ws m L kf (t'.setZ fD u.z) (er.trans (by rw [e']; rfl)) ⟨D, dvs, n, rfl, upd_self .., VRs.mono (ZLe.upd u.z) PLe.refl _ v', ten_k z'⟩ ((upd_ne (Ne.symm (fr_ne_ex d' l'))).trans l') fL
  refine codeAny_compStart_list main ?_
  obtain ⟨mu, ⟨a, ws, n, j, h⟩ | ⟨x, n, rfl, _⟩⟩ := i
  · exact wpAny_pyIter_listiter ⟨_, ex_at (k.inv.m _ _ mu), h.cls, h.data⟩ main
  · exact wpAny_pyIter_rangeiter (ex_at (k.inv.m _ _ mu)) main
theorem comp_env {c₂ : Cf} (V : EnvOk env sc) (F : CompFacts sc scope y x) (hh : A.handled = none) (body : ∀ L, Turn Y A c (compEnv env scope L cl) ifs elt y g)
    (er : compR ri g = (mapR g vs c₂.H).bind fun ws H => .ok (MV.list ws) H) (hb : compR ri g ≠ .bad) (hle : vs.length ≤ 1000) (fin : CompFin Y A c ri g use Q E)
    (k : c₂.Ok Y) (t : Step c c₂) (i : Iter Y c₂ it vs o) (fi : c.Mu it = none) (hD : c₂.Mu D = some (.ex (listOf #[] 0))) (fD : c.Mu D = none) :
    wpAny Y.M A (newFunctionEnv scope env.globals cl [] env.qual none .none (some env)) (fun cenv s₄ => codeAny Y.M A (.compStart (.ListComp elt [⟨.Name y yp, iter, ifs, 0⟩] scope pos) 0 (.ref it) (.ref D) { cenv with scope := relabel scope env }) (compPost Y.M A E use Q (.ref D) cenv.locals) s₄) E c₂.s := by
  have hnc : ∀ p ∈ scope.names, p.2 ≠ .cell := fun p hp hk => by
    rcases F.names p hp with ⟨a, _⟩ | a | ⟨a, _⟩ <;> cases hk.symm.trans a
  refine wpAny_newFunctionEnv hnc (fun _ h => nomatch h) (fun h' hns hsb => ?_) F.kind
  have fL := k.free (Nat.le_refl c₂.s.heap.objs.size)
  have k₃ := k.setM (x := some (.fr fun _ => none)) (h := h') c₂.s.toks (un_free fL) (fun b o n e => hsb.extBut b o n (Heap.get?_push_of_some _ e)) fun z hz => Option.some.inj hz ▸ at_fr hns
  exact comp_in (c₃ := c₂.setM c₂.s.heap.objs.size (some (.fr fun _ => none)) h' c₂.s.toks) V F hh (body _) er hb hle fin k₃ (t.setM (fresh_step t fL).2) ⟨(Cf.setM_ne (ne_none fL.2 i.mu)).trans i.mu, ItO.mono (c := c₂) ⟨ZLe.refl, PLe.refl, rfl⟩ i.o⟩ fi
    ((Cf.setM_ne (ne_none fL.2 hD)).trans hD) fD (Cf.setM_m ..) (fresh_step t fL).2
theorem comp_core (V : EnvOk env sc) (F : CompFacts sc scope y x) (hh : A.handled = none) (hit : ∀ x, foldedSetIterable iter env x = pure x)
    (hcells : ∀ z, sc.names.lookup z = some .cell → ∃ a, env.cells.lookup z = some a) (hI : SI Y A l iter env ri c)
    (body : ∀ L cl, (∀ p ∈ scope.names, p.2 = .free → cl.lookup p.1 = env.cells.lookup p.1) → Turn Y A c (compEnv env scope L cl) ifs elt y g)
    (hb : compR ri g ≠ .bad) (hx : ∀ c' k e a C B a0, c'.Ok Y → Step c c' → ri = .ex k c'.H → Flown Y c' l e k a C B a0 → E e c'.s) (fin : CompFin Y A c ri g use Q E) :
    wpAny Y.M A (comprehension (.ListComp elt [⟨.Name y yp, iter, ifs, 0⟩] scope pos) scope env p₁ (newList []) false (eval iter env) use) Q E c.s := by
  have hfree : ∀ p ∈ scope.names, p.2 = .free → ∃ a, env.cells.lookup p.1 = some a := fun p hp hk => by
    rcases F.names p hp with ⟨a, _⟩ | a | ⟨_, b⟩
    · cases hk.symm.trans a
    · cases hk.symm.trans a
    · exact hcells _ b
  obtain ⟨cl, hclos, hcl⟩ := closure_of hfree F.nodup
  refine wpAny_comprehension_free (g := ⟨.Name y yp, iter, ifs, 0⟩) (gs := []) rfl hit hclos F.kind (fun p hp hk => (lookup_nodup F.nodup hp).trans (congrArg some hk)) ?_
  refine hI _ _ ⟨fun e => hb (by unfold compR; rw [e]; rfl), fun c₁ _ vs k₁ t₁ e₁ i => ?_, fun c' k e a C B a0 o s e' => hx c' k e a C B a0 o s e'⟩
  obtain ⟨it, o, rfl, i₁, fi⟩ := i
  have er : compR ri g = (if 1000 < vs.length then RS.bad else (mapR g vs c₁.H).bind fun ws H => .ok (MV.list ws) H) := by unfold compR; rw [e₁]; rfl
  have hle : ¬ 1000 < vs.length := fun h => hb (er.trans (if_pos h))
  refine wpAny_newList ?_
  have fD := k₁.free (Nat.le_refl c₁.s.heap.objs.size)
  exact comp_env (c₂ := c₁.setM c₁.s.heap.objs.size (some (.ex (listOf #[] 0))) (c₁.s.heap.push (listOf #[] 0)) c₁.s.toks) V F hh (fun L => body L cl hcl) (er.trans (if_neg hle)) hb (Nat.le_of_not_lt hle) fin
    (k₁.setM c₁.s.toks (un_free fD) (fun _ _ _ e => Heap.get?_push_of_some _ e) fun z hz => Option.some.inj hz ▸ at_ex (Heap.get?_push_size _ rfl)) (t₁.setM (fresh_step t₁ fD).2)
    ⟨(Cf.setM_ne (ne_none fD.2 i₁.mu)).trans i₁.mu, ItO.mono (c := c₁) ⟨ZLe.refl, PLe.refl, rfl⟩ i₁.o⟩ fi (Cf.setM_m ..) (fresh_step t₁ fD).2
end
end Mini
end
noncomputable section
namespace Mini
open PySem PySem.W PySem.Calls PyProof.Rows
structure At (A : Around) (l : List Env) (D U : Nat) : Prop where
  fr : A.frames = some l
  h : A.handled = none
  d : A.depth ≤ D
  u : A.units ≤ U
noncomputable def CallPost (Q : Value → Shared → Prop) (E : Value → Shared → Prop) (r : Result) (s : Shared) : Prop := match r with
  | .ok (.ret v) => Q v s
  | .ok _ => False
  | .error e => E e s
noncomputable def CallOk (Y : Sys) (cf : Nat → List MV → MH → RS MV) (D U : Nat) : Prop :=
  ∀ (f : Nat) (a : Addr) (args : List MV) (vals : List Value) (c : Cf) (A : Around) (l : List Env), flook f Y.T.fadr = some a → NotInit Y.P f → c.Ok Y → VRs Y c.Z c.φ args vals → FramesOk c l → At A l D U →
    ∀ Q E, Go Y l (VRc Y) (cf f args c.H) c Q E → codeAny Y.M A (.call (.ref a) ⟨vals, []⟩) (CallPost Q E) c.s
structure RecD (Y : Sys) (cf : Nat → List MV → MH → RS MV) (c : Cf) (ci : Nat) (k : MCls) (dx : Addr) (args : List MV) (c' : Cf) (ms : List MV) (es : List DictEntry) (n : Nat) (vs : List Value) : Prop where
  ok : c'.Ok Y
  st : ∀ d : Cf, Step d c → d.Mu dx = none → Step d c'
  z : ZLe c.Z c'.Z
  eq : cf k.init args c.H = .ok (.inst ci ms) c'.H
  mu : c'.Mu dx = some (.ex (dictOf es n))
  en : Ents Y.T.hs (k.flds.map (nameOf Y.T)) vs es
  vr : VRs Y c'.Z c'.φ ms vs
noncomputable def RecOk (Y : Sys) (cf : Nat → List MV → MH → RS MV) (D U : Nat) : Prop :=
  ∀ (ci : Nat) (k : MCls) (C a x dx : Addr) (args : List MV) (vals : List Value) (c : Cf) (A : Around) (l : List Env), Y.P.cls[ci]? = some k → k.record = true → Y.T.cadr[ci]? = some C → flook k.init Y.T.fadr = some a → c.Ok Y →
    c.Z x = some (instObj C dx) → c.Mu dx = some (.ex (dictOf [] 0)) → VRs Y c.Z c.φ args vals → FramesOk c l → At A l D U → cf k.init args c.H ≠ .bad →
    ∀ R : Result → Shared → Prop, (∀ c' ms es n vs, RecD Y cf c ci k dx args c' ms es n vs → R (.ok (.ret .none)) c'.s) → codeAny Y.M A (.call (.ref a) ⟨.ref x :: vals, []⟩) R c.s
section
variable {Y : Sys} {A : Around} {l : List Env} {c : Cf}
theorem At.type {D U : Nat} (h : At A l D U) (C : Addr) (vals : List Value) : At (A.under (.builtin "type.__call__" ⟨.ref C :: vals, []⟩)) l (D + 1) (U + 1) :=
  ⟨h.fr, h.h, (depth_under_make A C vals).symm ▸ Nat.succ_le_succ h.d, Nat.succ_le_succ h.u⟩
theorem free_of (k : c.Ok Y) {L x dx : Addr} (h1 : ∀ p ∈ full [L] c.s.heap, p.1 < dx) (h2 : dx ≤ x) (hx : x ≠ L) : c.Z x = none ∧ c.Mu x = none :=
  have hn : ∀ o, c.s.heap.get? x ≠ some o := fun o e => Nat.lt_irrefl _ (Nat.lt_of_lt_of_le (h1 (x, o) (mem_full (fun q => hx (List.mem_singleton.mp q)) e)) h2)
  ⟨Option.eq_none_iff_forall_ne_some.mpr fun o e => hn o (k.inv.z _ _ e), Option.eq_none_iff_forall_ne_some.mpr fun o e => let ⟨o, q, _⟩ := k.inv.m _ _ e; hn o q⟩
theorem FramesOk.some (F : FramesOk c l) (hl : l ≠ []) : ∃ L m, c.Mu L = some (.fr m) := match l, hl, F with
  | e :: _, _, F => let ⟨_, L, m, _, h⟩ := F e (.head _); ⟨L, m, h⟩
noncomputable def Cf.addO (c : Cf) (x dx C : Addr) (ci : Nat) (h : Heap) : Cf := { Z := upd c.Z x (some (instObj C dx)), Mu := upd c.Mu dx (some (.st (dictOf [] 0))), φ := c.φ ++ [(x, dx)], H := c.H ++ [⟨ci, []⟩], s := { c.s with heap := h } }
theorem addO_ok {x dx C : Addr} {ci : Nat} {k : MCls} {h : Heap} (ok : c.Ok Y) (hk : Y.P.cls[ci]? = some k) (hr : k.record = false) (hC : Y.T.cadr[ci]? = some C) (okh : (c.heap h c.s.toks).Ok Y) (fx : c.Z x = none ∧ c.Mu x = none) (fd : c.Z dx = none ∧ c.Mu dx = none) (hxd : x ≠ dx)
    (gx : h.get? x = some (instObj C dx)) (gd : h.get? dx = some (dictOf [] 0)) : (c.addO x dx C ci h).Ok Y ∧ Step c (c.addO x dx C ci h) := by
  have zle : ZLe c.Z (upd c.Z x (some (instObj C dx))) := ZLe.upd fx.1
  have hlen := ok.hr.len
  refine ⟨⟨?_, ⟨by show (c.φ ++ _).length = (c.H ++ _).length; rw [List.length_append, List.length_append, hlen]; rfl, fun i o e => ?_, ?_⟩, fun a o e => zle a o (ok.base a o e)⟩, ⟨zle, PLe.append, rfl⟩, fun a y e => ⟨y, (upd_ne (ne_none fd.2 e)).trans e, fun _ => rfl⟩⟩
  · refine ⟨fun a o e => ?_, fun a y e => ?_, fun a y e => ?_⟩
    · exact (upd_cases e).elim (fun q => by cases q.2; exact q.1 ▸ gx) fun q => okh.inv.z a o q.2
    · rcases upd_cases e with ⟨rfl, q⟩ | q
      · cases q; exact ⟨_, gd, rfl⟩
      · exact okh.inv.m a y q.2
    · refine (upd_cases e).elim (fun q => q.1 ▸ (upd_ne (Ne.symm hxd)).trans fd.1) fun q => (upd_ne (ne_none fx.2 q.2)).trans (ok.inv.d a y q.2)
  · rcases Nat.lt_or_ge i c.H.length with hi | hi
    · obtain ⟨x', dx', es, n, vs, q1, O⟩ := ok.hr.obj i o ((List.getElem?_append_left hi).symm.trans e)
      exact ⟨x', dx', es, n, vs, PLe.append _ _ q1, O.mono zle PLe.append ((upd_ne (ne_none fd.2 O.mu)).trans O.mu)⟩
    · have e' : [(⟨ci, []⟩ : MObj)][i - c.H.length]? = some o := (List.getElem?_append_right hi).symm.trans e
      have hi' : i = c.H.length := Nat.le_antisymm (Nat.le_of_not_lt fun hlt => by rw [List.getElem?_eq_none (Nat.le_sub_of_add_le (by rw [Nat.add_comm]; exact hlt))] at e'; cases e') hi
      subst hi'
      rw [Nat.sub_self] at e'
      cases e'
      exact ⟨x, dx, [], 0, [], (hlen ▸ List.getElem?_concat_length : (c.φ ++ [(x, dx)])[c.H.length]? = _), upd_self .., .nil, rfl, (fun _ h => nomatch h), .inl ⟨k, C, hk, hr, hC, upd_self .., fun _ h => nomatch h⟩⟩
  · show ((c.φ ++ [(x, dx)]).map (·.2)).Nodup
    rw [List.map_append, List.nodup_append]
    refine ⟨ok.hr.nd, List.nodup_cons.mpr ⟨(fun h => nomatch h), List.nodup_nil⟩, fun a ha b hb' => ?_⟩
    rw [List.mem_singleton.mp hb']
    obtain ⟨⟨px, pd⟩, hp, rfl⟩ := List.mem_map.mp ha
    obtain ⟨i, hi, ei⟩ := List.getElem_of_mem hp
    obtain ⟨x', dx', es, n, vs, q1, O⟩ := ok.hr.obj i _ (List.getElem?_eq_getElem (hlen ▸ hi))
    have q := (List.getElem?_eq_getElem hi).symm.trans q1
    rw [ei] at q
    cases q
    exact ne_none fd.2 O.mu
theorem wp_new_obj {cf : Nat → List MV → MH → RS MV} {D U : Nat} (CO : CallOk Y cf (D + 1) (U + 1)) {ci : Nat} {k : MCls} {C : Addr} {args : List MV} {vals : List Value} (ok : c.Ok Y) (hk : Y.P.cls[ci]? = some k) (hr : k.record = false)
    (hC : Y.T.cadr[ci]? = some C) (hv : VRs Y c.Z c.φ args vals) (F : FramesOk c l) (hl : l ≠ []) (hA : At A l D U) :
    Wk Y A l (call (.ref C) vals) (VRc Y) ((cf k.init (.obj c.H.length :: args) (c.H ++ [⟨ci, []⟩])).bind fun r H' => opt r.none? fun _ => RS.ok (MV.obj c.H.length) H') c := fun Q E g => by
  have CK := cls_at hk hC
  obtain ⟨fI, e1, e2, e3⟩ := CK.init
  obtain ⟨L, fm, hL⟩ := F.some hl
  refine wpAny_call (make_K (ok.fr hL) (ok.news L) ok.kin CK.makes e2 (beq_iff_eq.mp e3) fun x dx h' F' N' lt1 lt2 => ?_)
  have hfx := free_of ok lt1 (Nat.le_of_lt lt2) (N' _ (.head _)).2.1
  have hfd := free_of ok lt1 (Nat.le_refl _) (N' _ (.tail _ (.head _))).2.1
  obtain ⟨ok1, st1⟩ := addO_ok (ci := ci) ok hk hr hC (ok.led hL _ F'.ns (led_get N' fun p hp => .tail _ (.tail _ hp))) hfx hfd (Nat.ne_of_gt lt2) (N' _ (.head _)).1 (N' _ (.tail _ (.head _))).1
  have hself : VR Y (c.addO x dx C ci h').Z (c.addO x dx C ci h').φ (.obj c.H.length) (.ref x) := ⟨x, dx, rfl, (ok.hr.len ▸ List.getElem?_concat_length : (c.φ ++ [(x, dx)])[c.H.length]? = _)⟩
  refine codeAny_mono (CO k.init fI (.obj c.H.length :: args) (.ref x :: vals) (c.addO x dx C ci h') _ l e1 (Y.recs ci k hk hr) ok1 ⟨_, _, rfl, hself, VRs.mono st1.z st1.p _ hv⟩ (F.step st1) (hA.type C vals)
    (fun v s => v = .none ∧ Q (.ref x) s) E ⟨RS.bind_nb g.nb, fun c' v m k' s' e rv => ?_, fun c' k e a C' B a0 o s e' => g.ex c' k e a C' B a0 o (st1.trans s) (by rw [show c.H ++ [⟨ci, []⟩] = (c.addO x dx C ci h').H from rfl, e']; rfl)⟩) fun r' s' h => ?_
  · have q : ((cf k.init (.obj c.H.length :: args) (c.H ++ [⟨ci, []⟩])).bind fun r H' => opt r.none? fun _ => RS.ok (MV.obj c.H.length) H') = opt m.none? fun _ => RS.ok (MV.obj c.H.length) c'.H := by
      rw [show c.H ++ [⟨ci, []⟩] = (c.addO x dx C ci h').H from rfl, e]; rfl
    cases m with
    | none => exact ⟨rv, g.ok c' _ _ k' (st1.trans s') q (VR.mono s'.z s'.p _ hself)⟩
    | _ => exact absurd q g.nb
  · cases r' with
    | error e => exact h
    | ok f => cases f with
      | ret v => obtain ⟨rfl, h⟩ := h; exact ⟨rfl, h⟩
      | _ => exact h.elim
where RS.bind_nb {α β : Type} {r : RS α} {f : α → MH → RS β} (h : r.bind f ≠ .bad) : r ≠ .bad := fun e => h (e ▸ rfl)
theorem wp_new_rec {cf : Nat → List MV → MH → RS MV} {D U : Nat} (RO : RecOk Y cf (D + 1) (U + 1)) {ci : Nat} {k : MCls} {C : Addr} {args : List MV} {vals : List Value} (ok : c.Ok Y) (hk : Y.P.cls[ci]? = some k) (hr : k.record = true)
    (hC : Y.T.cadr[ci]? = some C) (hv : VRs Y c.Z c.φ args vals) (F : FramesOk c l) (hl : l ≠ []) (hA : At A l D U) :
    Wk Y A l (call (.ref C) vals) (VRc Y) (cf k.init args c.H) c := fun Q E g => by
  have CK := cls_at hk hC
  obtain ⟨fI, e1, e2, e3⟩ := CK.init
  obtain ⟨L, fm, hL⟩ := F.some hl
  refine wpAny_call (make_K (ok.fr hL) (ok.news L) ok.kin CK.makes e2 (beq_iff_eq.mp e3) fun x dx h' F' N' lt1 lt2 => ?_)
  have hfx := free_of ok lt1 (Nat.le_of_lt lt2) (N' _ (.head _)).2.1
  have hfd := free_of ok lt1 (Nat.le_refl _) (N' _ (.tail _ (.head _))).2.1
  have p := ok.ledZ' hL c.s.toks F'.ns (led_get N' fun p hp => .tail _ (.tail _ hp)) (N' _ (.head _)).1 hfx
  have ok2 := p.1.setM (x := some (.ex (dictOf [] 0))) (h := h') (a := dx) c.s.toks (un_free ⟨(upd_ne (Nat.ne_of_lt lt2)).trans hfd.1, (upd_ne (Nat.ne_of_lt lt2)).trans hfd.2⟩) (fun _ _ _ e => e) fun z hz => Option.some.inj hz ▸ at_ex (N' _ (.tail _ (.head _))).1
  have st2 := p.2.setM (x := some (.ex (dictOf [] 0))) (h := h') (tk := c.s.toks) hfd.2
  refine RO ci k C fI x dx args vals ((c.setZ x (instObj C dx) h' c.s.toks).setM dx (some (.ex (dictOf [] 0))) h' c.s.toks) _ l hk hr hC e1 ok2 (upd_self ..) (upd_self ..) (VRs.mono st2.z st2.p _ hv) (F.step st2) (hA.type C vals) g.nb _ fun c' ms es n vs d => ⟨rfl, ?_⟩
  have u := d.ok.un d.mu rfl
  refine g.ok (c'.setZ dx (dictOf es n) c'.s.heap c'.s.toks) _ (.inst ci ms) (d.ok.setZ c'.s.toks u (fun _ _ _ e => e) (ex_at (d.ok.inv.m _ _ d.mu))) ((d.st c st2 hfd.2).setZ hfd.2 u.z) d.eq ?_
  have zle := ZLe.upd (o := some (dictOf es n)) u.z
  exact ⟨x, dx, k, C, es, n, vs, rfl, ⟨hk, hr, hC, zle _ _ (d.z _ _ (upd_self ..)), upd_self ..⟩, d.en, VRs.mono zle PLe.refl _ d.vr⟩
end
end Mini
end
noncomputable section
namespace Mini
open PySem PySem.W PySem.Calls PyProof.Rows
structure Blk (Y : Sys) where
  A : Around
  l : List Env
  env : Env
  sc : SC
  cf : Nat → List MV → MH → RS MV
  D : Nat
  U : Nat
  V : EnvOk env sc
  N : l ≠ []
  C : ∀ z, sc.names.lookup z = some .cell → ∃ a, env.cells.lookup z = some a
  CO : CallOk Y cf (D + 1) (U + 1)
  RO : RecOk Y cf (D + 1) (U + 1)
  at_ : At A l D U
  u : A.units + 20 < cLine
structure Ex {Y : Sys} (B : Blk Y) (loc : Loc) (c : Cf) : Prop where
  L : LocR Y B.env B.sc loc c
  K : c.Ok Y
  F : FramesOk c B.l
section
variable {Y : Sys}
theorem Ex.step {B : Blk Y} {loc : Loc} {c c' : Cf} (x : Ex B loc c) (s : Step c c') (k : c'.Ok Y) : Ex B loc c' := ⟨x.L.step s, k, x.F.step s⟩
theorem Ex.top {B : Blk Y} {loc : Loc} {c : Cf} (x : Ex B loc c) : ∃ L m, c.Mu L = some (.fr m) := x.F.some B.N
abbrev Blk.E (B : Blk Y) (me : ME) (loc : Loc) (H : MH) : RS MV := evalE Y.P B.cf me loc H
noncomputable def SE (Y : Sys) (me : ME) : Prop := ∀ (B : Blk Y) (e : Expr) (loc : Loc) (c : Cf), ok Y.T B.sc me e = true → Ex B loc c → Wk Y B.A B.l (eval (ex Y.T me e) B.env) (VRc Y) (evalE Y.P B.cf me loc c.H) c
structure SEs (Y : Sys) (es : MEs) : Prop where
  args : ∀ (B : Blk Y) (xs : List Expr) (loc : Loc) (c : Cf) (p : Pos), oks Y.T B.sc es xs = true → Ex B loc c → Wk Y B.A B.l (spliced (backTo p (starEach (exs Y.T es xs) B.env))) (VRsc Y) (evalEs Y.P B.cf es loc c.H) c
  stars : ∀ (sc : SC) (xs : List Expr), oks Y.T sc es xs = true → NoStars (exs Y.T es xs)
  bool : ∀ (a : Bool) (B : Blk Y) (xs : List Expr) (loc : Loc) (c : Cf) (p : Pos), oks Y.T B.sc es xs = true → Ex B loc c → Wk Y B.A B.l (boolOp p (if a then .And else .Or) (evalEach (exs Y.T es xs) B.env)) (VRc Y) (evalB Y.P B.cf a es loc c.H) c
structure SC' (Y : Sys) (cs : MCs) : Prop where
  chain : ∀ (B : Blk Y) (xs : List Expr) (loc : Loc) (c : Cf) (v : Value) (m : MV) (p : Pos), okC Y.T B.sc cs xs = true → Ex B loc c → VRc Y c v m → Wk Y B.A B.l (compareChain p v (opsC cs) (evalEach (exC Y.T cs xs) B.env)) (VRc Y) ((evalC Y.P B.cf m cs loc c.H).bind fun b H => .ok (.bool b) H) c
  test : ∀ (B : Blk Y) (xs : List Expr) (loc : Loc) (c : Cf) (v : Value) (m : MV) (p : Pos), okC Y.T B.sc cs xs = true → Ex B loc c → VRc Y c v m → Wk Y B.A B.l (testChain p v (opsC cs) (evalEach (exC Y.T cs xs) B.env)) Bc (evalC Y.P B.cf m cs loc c.H) c
  marks : ∀ (sc : SC) (xs : List Expr) (env : Env), okC Y.T sc cs xs = true → markedEach (opsC cs) (exC Y.T cs xs) (evalEach (exC Y.T cs xs) env) = evalEach (exC Y.T cs xs) env
noncomputable def ST (Y : Sys) (t : MT) : Prop := ∀ (B : Blk Y) (e : Expr) (loc : Loc) (c : Cf), okT Y.T B.sc t e = true → Ex B loc c → Wk Y B.A B.l (isTrue (exT Y.T t e) B.env (eval (exT Y.T t e) B.env)) Bc (evalT Y.P B.cf t loc c.H) c
noncomputable def STs (Y : Sys) (ts : MTs) : Prop := ∀ (a : Bool) (B : Blk Y) (xs : List Expr) (loc : Loc) (c : Cf), okTs Y.T B.sc ts xs = true → Ex B loc c → Wk Y B.A B.l (allTrue (if a then .And else .Or) (exTs Y.T ts xs) B.env) Bc (evalTs Y.P B.cf a ts loc c.H) c
structure SIt (Y : Sys) (it : MI) : Prop where
  run : ∀ (B : Blk Y) (e : Expr) (loc : Loc) (c : Cf), okI Y.T B.sc it e = true → Ex B loc c → SI Y B.A B.l (exI Y.T it e) B.env (evalI Y.P B.cf it loc c.H) c
  plain : ∀ (sc : SC) (e : Expr) (env : Env) (x : Value), okI Y.T sc it e = true → foldedSetIterable (exI Y.T it e) env x = pure x
theorem wp_of {A : Around} {α : Type} {t t' : Sem α} {Q : α → Shared → Prop} {E : Value → Shared → Prop} {s : Shared} (e : t = t') (h : wpAny Y.M A t' Q E s) : wpAny Y.M A t Q E s := e ▸ h
theorem se_bad : SE Y .bad := fun _ _ _ _ _ _ _ _ g => absurd rfl g.nb
theorem se_none : SE Y .none := fun _ _ _ _ _ x _ _ g => wpAny_Constant_none (g.here x.K rfl)
theorem se_tt : SE Y .tt := fun _ _ _ _ _ x _ _ g => wpAny_Constant_bool (g.here x.K rfl)
theorem se_ff : SE Y .ff := fun _ _ _ _ _ x _ _ g => wpAny_Constant_bool (g.here x.K rfl)
theorem se_int (i : Nat) : SE Y (.int i) := fun _ _ _ _ _ x _ _ g => wpAny_Constant_int (g.tok x.K _ ⟨_, rfl⟩)
theorem se_neg (i : Nat) : SE Y (.neg i) := fun _ _ _ _ _ x _ _ g => wpAny_UnaryOp (wpAny_Constant_int (neg_int (g.tok x.K _ ⟨_, rfl⟩)))
theorem se_bnil : SE Y .bnil := fun _ _ _ _ _ x _ _ g => Constant_bytes (g.tok x.K _ ⟨_, rfl, (fun _ h => nomatch h), Nat.zero_le _⟩)
theorem se_gint (n : Nat) (i : Int) : SE Y (.gint n i) := fun B _ _ _ h x _ _ g => glob_int B.V x.K h fun t => g.here x.K ⟨t, rfl⟩
theorem se_var (i : Nat) : SE Y (.var i) := fun B e loc c h x Q E g => by
  obtain ⟨v, q, g⟩ := Go.opt (o := (lget loc i).val?) g
  exact eval_slot B.V x.K x.L (beq_iff_eq.mp h) (LV.val_of q) (fun z => nomatch z) fun r _ hv => g.here x.K hv
theorem se_attr (a : ME) (f : Nat) (ha : SE Y a) : SE Y (.attr a f) := fun B e loc c h x Q E g => by
  refine Attribute_any_ ((ha B _ loc c (and_l h) x).seq g fun c₁ v m k₁ s₁ r₁ g => ?_) (by
    have := not_t (and_r h)
    revert this
    cases ex Y.T a (parts e).a <;> first | exact fun _ => rfl | exact fun h => nomatch h)
  obtain ⟨r, q, g⟩ := g.opt
  exact wp_getAttr k₁ r₁ q g
theorem eval_Bin (a : Expr) (o : Operator) (b : Expr) (pos : Pos) (env : Env) : eval (.BinOp a o b pos) env = (eval a env >>= fun x => holding [x] (eval b env) >>= fun y => standAt pos >>= fun _ => operate [x, y] (binaryOp o x y)) := rfl
theorem se_bin (o : Op) (a b : ME) (ha : SE Y a) (hb : SE Y b) : SE Y (.bin o a b) := fun B e loc c h x Q E g => by
  refine wp_of (eval_Bin _ _ _ _ _) (wpAny_bind ((ha B _ loc c (and_l h) x).seq g fun c₁ v m k₁ s₁ r₁ g => wpAny_bind (wpAny_holding ((hb B _ loc c₁ (and_r h) (x.step s₁ k₁)).seq g fun c₂ w n k₂ s₂ r₂ g => wpAny_bind (wpAny_standAt (wpAny_operateT ?_))))))
  obtain ⟨L, fm, hL⟩ := ((x.step s₁ k₁).step s₂ k₂).top
  obtain ⟨r, q, g⟩ := g.opt
  exact wp_binop k₂ hL (r₁.step s₂.toStB) r₂ q g
theorem se_cmp (a : ME) (cs : MCs) (ha : SE Y a) (hc : SC' Y cs) : SE Y (.cmp a cs) := fun B e loc c h x Q E g => by
  refine wp_of (arm_eval_Compare ..) (wpAny_bind ((ha B _ loc c (and_l h) x).seq g fun c₁ v m k₁ s₁ r₁ g => ?_))
  rw [hc.marks B.sc _ _ (and_r h)]
  exact hc.chain B _ loc c₁ v m _ (and_r h) (x.step s₁ k₁) r₁ _ _ g
theorem se_isNone (a : ME) (ha : SE Y a) : SE Y (.isNone a) := fun B e loc c h x Q E g =>
  wpAny_Compare1 ((ha B _ loc c h x).seq g fun c₁ v m k₁ s₁ r₁ g => wpAny_Constant_none (wpAny_is_plain (vr_none r₁).1 ((vr_none r₁).2 ▸ g.here k₁ rfl))) rfl
theorem se_notNone (a : ME) (ha : SE Y a) : SE Y (.notNone a) := fun B e loc c h x Q E g =>
  wpAny_Compare1 ((ha B _ loc c h x).seq g fun c₁ v m k₁ s₁ r₁ g => wpAny_Constant_none (wpAny_isNot_plain (vr_none r₁).1 ((vr_none r₁).2 ▸ g.here k₁ rfl))) rfl
theorem se_and (es : MEs) (hs : SEs Y es) : SE Y (.and es) := fun B e loc c h x Q E g => hs.bool true B _ loc c _ h x Q E g
theorem se_or (es : MEs) (hs : SEs Y es) : SE Y (.or es) := fun B e loc c h x Q E g => hs.bool false B _ loc c _ h x Q E g
theorem se_not (a : ME) (ha : SE Y a) : SE Y (.not a) := fun B e loc c h x Q E g =>
  wpAny_UnaryOp ((ha B _ loc c h x).seq g fun c₁ v m k₁ s₁ r₁ g => let ⟨_, q, g⟩ := g.opt; not_of (wp_truth r₁ q (g.here k₁ rfl)))
theorem se_ite (t : MT) (a b : ME) (ht : ST Y t) (ha : SE Y a) (hb : SE Y b) : SE Y (.ite t a b) := fun B e loc c h x Q E g =>
  wpAny_IfExp ((ht B _ loc c (and_l h) x).seq g fun c₁ v b' k₁ s₁ r₁ g => match v, b', r₁, g with
    | true, _, rfl, g => ha B _ loc c₁ (and_l (and_r h)) (x.step s₁ k₁) Q E g
    | false, _, rfl, g => hb B _ loc c₁ (and_r (and_r h)) (x.step s₁ k₁) Q E g)
theorem eval_Sub (v s : Expr) (pos : Pos) (env : Env) : eval (.Subscript v s pos) env = (eval v env >>= fun o => holding [o] (eval s env) >>= fun i => standAt pos >>= fun _ => subscriptTail v s o i) := rfl
theorem se_idx (a b : ME) (ha : SE Y a) (hb : SE Y b) : SE Y (.idx a b) := fun B e loc c h x Q E g =>
  wp_of (eval_Sub ..) (wpAny_bind ((ha B _ loc c (and_l h) x).seq g fun c₁ v m k₁ s₁ r₁ g => wpAny_bind (wpAny_holding ((hb B _ loc c₁ (and_l (and_r h)) (x.step s₁ k₁)).seq g fun c₂ w n k₂ s₂ r₂ g => wpAny_bind (wpAny_standAt (let ⟨_, q, g⟩ := g.opt; wp_idx k₂ (and_r (and_r h)) (r₁.step s₂.toStB) r₂ q g))))))
theorem isStrOf_eq (x : Str) (v : Value) : Value.isStrOf x v = v.isStr x := by cases v <;> rfl
theorem keys_of {w : World} {hs : Str → Int} (hhs : ∀ n, hs n = PyData.keyHash w.params n) {prog : Program} : ∀ {ns : List Str} {vs : List Value} {es : List DictEntry}, Ents hs ns vs es → KeysOf (strKind prog w) es.toArray := by
  intro ns vs es h
  induction h with
  | nil => intro e he; exact nomatch List.mem_toArray.mp he
  | cons t r ih =>
    intro e he
    rw [List.mem_toArray] at he
    rcases List.mem_cons.mp he with rfl | he
    · exact ⟨_, (strKind_is prog w _ t), hhs _⟩
    · exact ih e (List.mem_toArray.mpr he)
theorem dict_at {c : Cf} (k : c.Ok Y) {v : Value} {m : MV} {f : Nat} {r : MV} (hv : VR Y c.Z c.φ m v) (e : getKey Y.P m f c.H = some r) :
    ∃ a x ob es n vs, m = .obj a ∧ v = .ref x ∧ c.φ[a]? = some (x, x) ∧ c.H[a]? = some ob ∧ ob.c = Y.P.cls.length ∧ fget f ob.fs = some r ∧ ObjAt Y c.Z c.φ c.Mu ob x x es n vs := by
  obtain ⟨a, q, e₁⟩ := of_bind e
  cases MV.obj_of q
  obtain ⟨ob, ho, e₂⟩ := of_bind e₁
  by_cases hc : ob.c = Y.P.cls.length
  · rw [if_pos hc] at e₂
    obtain ⟨x, dx, rfl, p⟩ := hv
    obtain ⟨x', dx', es, n, vs, p', O⟩ := k.hr.obj a ob ho
    cases p.symm.trans p'
    rcases O.kind with ⟨k', C, i⟩ | ⟨_, q⟩
    · have := i.cls; rw [hc, List.getElem?_eq_none (Nat.le_refl _)] at this; cases this
    · subst q; exact ⟨a, x, ob, es, n, vs, rfl, rfl, p, ho, hc, e₂, O⟩
  · rw [if_neg hc] at e₂; cases e₂
theorem se_key (a : ME) (f : Nat) (ha : SE Y a) : SE Y (.key a f) := fun B e loc c h x Q E g =>
  wp_of (eval_Sub ..) (wpAny_bind ((ha B _ loc c h x).seq g fun c₁ v m k₁ s₁ r₁ g => wpAny_bind (wpAny_holding (Constant_str (wpAny_bind (wpAny_standAt (by
    obtain ⟨r, q, g₂⟩ := g.opt
    obtain ⟨i, dx, ob, es, n, vs, rfl, rfl, hp, ho, hc, hg, O⟩ := dict_at k₁ r₁ q
    have gd : c₁.s.heap.get? dx = some (dictOf es n) := st_at (k₁.inv.m _ _ O.mu)
    obtain ⟨g1, g2⟩ := fget_some hg
    have hE := O.en
    rw [map_names] at hE
    obtain ⟨y, e1, e2⟩ := VRs.get O.vr g1
    obtain ⟨p0, hp0, hpe⟩ := List.mem_map.mp g2
    have hG := (ents_get Y.X.names (hpe ▸ O.nm p0 hp0) hE (fun q hq => by obtain ⟨p, hp, rfl⟩ := List.mem_map.mp hq; exact O.nm p hp)).1 y e1
    have hM : c₁.s.heap.MapOf (strKind Y.prog Y.w) dx (findBy Value.isStrOf es.toArray) := ⟨_, _, n, gd, ⟨rfl, rfl, rfl⟩, rfl, keys_of Y.hs hE, fun _ => rfl⟩
    have hf : findBy Value.isStrOf es.toArray (nameOf Y.T f) = some y := by
      unfold findBy
      unfold getL at hG
      rw [List.find?_toArray]
      rw [show (fun e : DictEntry => Value.isStrOf (nameOf Y.T f) e.key) = fun e => e.key.isStr (nameOf Y.T f) from funext fun e => isStrOf_eq _ _]
      cases q : es.find? (fun e => e.key.isStr (nameOf Y.T f)) with
      | none => rw [q] at hG; simp only at hG; split at hG <;> cases hG
      | some en => rw [q] at hG; cases hG; rfl
    exact tail_any ⟨_, gd, rfl⟩ slot_dict_getitem.lookup (wpAny_getItem_of (strKind_is Y.prog Y.w _ _) hM hf (g₂.tok k₁ _ e2)) (sub_plain rfl))))))))
end
end Mini
end
noncomputable section
namespace Mini
open PySem PySem.W PySem.Calls PyProof.Rows
section
variable {Y : Sys}
section
variable {A : Around} {s : Shared} {E : Value → Shared → Prop} {Q : Value → Shared → Prop} {env : Env} {p q : Pos} {x : Expr} {o : Value}
theorem slice_end {vl vu : Value} {lo hi : Option Expr} (h : wpAny Y.M A (newFields "slice" [vl, vu, .none]) (fun i s₂ => wpAny Y.M A (subscriptTail x (.Slice lo hi none p) o i) Q E s₂) E s) :
    wpAny Y.M A (newFields "slice" [vl, vu, .none]) (fun i s' => wpAny Y.M A (standAt q >>= fun _ => subscriptTail x (.Slice lo hi none p) o i) Q E s') E s :=
  wpAny_mono h (fun _ _ h => wpAny_bind (wpAny_standAt h)) fun _ _ h => h
theorem slice_0 {Q : Value → Shared → Prop} (h : wpAny Y.M A (newFields "slice" [.none, .none, .none]) Q E s) : wpAny Y.M A (eval (.Slice none none none p) env) Q E s :=
  wpAny_bind (wpAny_pure (wpAny_bind (wpAny_holding (wpAny_pure (wpAny_bind (wpAny_holding (wpAny_pure h)))))))
theorem slice_L {lo : Expr} {Q : Value → Shared → Prop} (h : wpAny Y.M A (eval lo env) (fun vl s₁ => wpAny Y.M A (newFields "slice" [vl, .none, .none]) Q E s₁) E s) : wpAny Y.M A (eval (.Slice (some lo) none none p) env) Q E s :=
  wpAny_bind (wpAny_mono h (fun _ _ h => wpAny_bind (wpAny_holding (wpAny_pure (wpAny_bind (wpAny_holding (wpAny_pure h)))))) fun _ _ h => h)
theorem slice_U {hi : Expr} {Q : Value → Shared → Prop} (h : wpAny Y.M A (eval hi env) (fun vu s₁ => wpAny Y.M A (newFields "slice" [.none, vu, .none]) Q E s₁) E s) : wpAny Y.M A (eval (.Slice none (some hi) none p) env) Q E s :=
  wpAny_bind (wpAny_pure (wpAny_bind (wpAny_holding (wpAny_mono h (fun _ _ h => wpAny_bind (wpAny_holding (wpAny_pure h))) fun _ _ h => h))))
theorem slice_LU {lo hi : Expr} {Q : Value → Shared → Prop} (h : wpAny Y.M A (eval lo env) (fun vl s₁ => wpAny Y.M A (eval hi env) (fun vu s₂ => wpAny Y.M A (newFields "slice" [vl, vu, .none]) Q E s₂) E s₁) E s) : wpAny Y.M A (eval (.Slice (some lo) (some hi) none p) env) Q E s :=
  wpAny_bind (wpAny_mono h (fun _ _ h => wpAny_bind (wpAny_holding (wpAny_mono h (fun _ _ h => wpAny_bind (wpAny_holding (wpAny_pure h))) fun _ _ h => h))) fun _ _ h => h)
end
theorem part_of {Z : ZM} {φ : PH} {d : Bool} {v : Value} {m : MV} (h : VR Y Z φ m v) {xs : List MV} {b : Nat} (e : bd m xs.length = some b) : ∃ i, PartIs (bd m) d v (some i) := by
  obtain ⟨i, q, _⟩ := Option.map_eq_some_iff.mp e
  cases MV.int_of q
  obtain ⟨t, rfl⟩ := h
  exact ⟨i, .int i t, fun _ => rfl⟩
theorem sliceO_of {m r : MV} {fl fu : Nat → Option Nat} (h : sliceO m fl fu = some r) : ∃ xs a b, m = .list xs ∧ fl xs.length = some a ∧ fu xs.length = some b := by
  obtain ⟨xs, q, h1⟩ := of_bind h
  obtain ⟨a, h2, h3⟩ := of_bind h1
  obtain ⟨b, h4, _⟩ := Option.map_eq_some_iff.mp h3
  exact ⟨xs, a, b, MV.list_of q, h2, h4⟩
theorem slice_go {A : Around} {l : List Env} {c : Cf} {Q : Value → Shared → Prop} {E : Value → Shared → Prop} {x : Expr} {lo hi : Option Expr} {p : Pos} {vl vu o : Value} {fl fu : Nat → Option Nat} {il iu : Option Int} {m r : MV} (k : c.Ok Y)
    (ho : VR Y c.Z c.φ m o) (pl : PartIs fl false vl il) (pu : PartIs fu true vu iu) (e : sliceO m fl fu = some r) (g : Go Y l (VRc Y) (.ok r c.H) c Q E) :
    wpAny Y.M A (newFields "slice" [vl, vu, .none]) (fun i s₂ => wpAny Y.M A (subscriptTail x (.Slice lo hi none p) o i) Q E s₂) E c.s :=
  wp_slice k ho pl pu e fun q hv hl hs he ha => by subst q; exact g.list k _ ha (k.free hs) (fun b o _ q => he b o q) hv hl
theorem se_sliceA (a : ME) (ha : SE Y a) : SE Y (.sliceA a) := fun B e loc c h x Q E g =>
  wp_of (eval_Sub ..) (wpAny_bind ((ha B _ loc c h x).seq g fun c₁ v m k₁ s₁ r₁ g => wpAny_bind (wpAny_holding (slice_0 (slice_end (let ⟨_, q, g⟩ := g.opt; slice_go k₁ r₁ part_lo part_hi q g))))))
theorem se_sliceL (a b : ME) (ha : SE Y a) (hb : SE Y b) : SE Y (.sliceL a b) := fun B e loc c h x Q E g =>
  wp_of (eval_Sub ..) (wpAny_bind ((ha B _ loc c (and_l h) x).seq g fun c₁ v m k₁ s₁ r₁ g => wpAny_bind (wpAny_holding (slice_L ((hb B _ loc c₁ (and_r h) (x.step s₁ k₁)).seq g fun c₂ w n k₂ s₂ r₂ g => slice_end (by
    obtain ⟨r, q, g⟩ := g.opt
    obtain ⟨xs, _, _, _, e1, _⟩ := sliceO_of q
    obtain ⟨i, hp⟩ := part_of (d := false) r₂ e1
    exact slice_go k₂ (r₁.step s₂.toStB) hp part_hi q g))))))
theorem se_sliceU (a b : ME) (ha : SE Y a) (hb : SE Y b) : SE Y (.sliceU a b) := fun B e loc c h x Q E g =>
  wp_of (eval_Sub ..) (wpAny_bind ((ha B _ loc c (and_l h) x).seq g fun c₁ v m k₁ s₁ r₁ g => wpAny_bind (wpAny_holding (slice_U ((hb B _ loc c₁ (and_r h) (x.step s₁ k₁)).seq g fun c₂ w n k₂ s₂ r₂ g => slice_end (by
    obtain ⟨r, q, g⟩ := g.opt
    obtain ⟨xs, _, _, _, _, e1⟩ := sliceO_of q
    obtain ⟨i, hp⟩ := part_of (d := true) r₂ e1
    exact slice_go k₂ (r₁.step s₂.toStB) part_lo hp q g))))))
theorem se_sliceLU (a b d : ME) (ha : SE Y a) (hb : SE Y b) (hd : SE Y d) : SE Y (.sliceLU a b d) := fun B e loc c h x Q E g =>
  wp_of (eval_Sub ..) (wpAny_bind ((ha B _ loc c (and_l h) x).seq g fun c₁ v m k₁ s₁ r₁ g => wpAny_bind (wpAny_holding (slice_LU ((hb B _ loc c₁ (and_l (and_r h)) (x.step s₁ k₁)).seq g fun c₂ w n k₂ s₂ r₂ g =>
    (hd B _ loc c₂ (and_r (and_r h)) ((x.step s₁ k₁).step s₂ k₂)).seq g fun c₃ w' n' k₃ s₃ r₃ g => slice_end (by
    obtain ⟨r, q, g⟩ := g.opt
    obtain ⟨xs, _, _, _, e1, e2⟩ := sliceO_of q
    obtain ⟨i, hp⟩ := part_of (d := false) (r₂.step s₃.toStB) e1
    obtain ⟨j, hq⟩ := part_of (d := true) r₃ e2
    exact slice_go k₃ (r₁.step (s₂.trans s₃).toStB) hp hq q g))))))
theorem evalEs_len {P : Prg} {T : Tie} {cf : Nat → List MV → MH → RS MV} {loc : Loc} : ∀ {es : MEs} {xs : List Expr} {H H' : MH} {vs : List MV}, evalEs P cf es loc H = .ok vs H' → (exs T es xs).length = vs.length
  | .nil, _, _, _, _, e => by cases e; rfl
  | .cons e r, xs, H, H', vs, q => by
    have q' : ((evalE P cf e loc H).bind fun v H => (evalEs P cf r loc H).bind fun vs H => RS.ok (v :: vs) H) = .ok vs H' := q
    cases h1 : evalE P cf e loc H with
    | bad => rw [h1] at q'; cases q'
    | ex => rw [h1] at q'; cases q'
    | ok v H1 =>
      rw [h1] at q'
      have q' : ((evalEs P cf r loc H1).bind fun vs H => RS.ok (v :: vs) H) = .ok vs H' := q'
      cases h2 : evalEs P cf r loc H1 with
      | bad => rw [h2] at q'; cases q'
      | ex => rw [h2] at q'; cases q'
      | ok ws H2 => rw [h2] at q'; cases q'; exact congrArg (· + 1) (evalEs_len h2)
theorem SEs.seqL {es : MEs} (hs : SEs Y es) {B : Blk Y} {xs : List Expr} {loc : Loc} {c : Cf} {p : Pos} {γ δ : Type} {R' : Cf → γ → δ → Prop} {f : List MV → MH → RS δ} {Q : List Value → Shared → Prop} {Q' : γ → Shared → Prop} {E : Value → Shared → Prop} (h : oks Y.T B.sc es xs = true) (x : Ex B loc c)
    (g : Go Y B.l R' ((evalEs Y.P B.cf es loc c.H).bind f) c Q' E) (k : ∀ c' v b, c'.Ok Y → Step c c' → VRsc Y c' v b → b.length = (exs Y.T es xs).length → Go Y B.l R' (f b c'.H) c' Q' E → Q v c'.s) : wpAny Y.M B.A (spliced (backTo p (starEach (exs Y.T es xs) B.env))) Q E c.s :=
  hs.args B xs loc c p h x Q E ⟨fun e => g.nb (e ▸ rfl), fun c' v b o s e q => k c' v b o s q (evalEs_len e).symm (g.next s e), fun c' k' e' a C B a0 o s e fl => g.ex c' k' e' a C B a0 o s (e ▸ rfl) fl⟩
theorem se_tup (es : MEs) (hs : SEs Y es) : SE Y (.tup es) := fun B e loc c h x Q E g => by
  show wpAny _ _ (standAt _ >>= fun _ => spliced (backTo _ (starEach _ _)) >>= fun vs => newTuple vs) _ _ _
  refine wpAny_bind (wpAny_standAt (wpAny_bind (hs.seqL (and_l h) x g fun c₁ vs ms k₁ s₁ r₁ hl g => ?_)))
  have hz : ms.length ≤ 1000 := hl ▸ of_decide_eq_true (and_r h)
  exact wpAny_newTuple (g.tup k₁ _ (Heap.get?_push_size _ rfl) (k₁.free (Nat.le_refl _)) (fun _ _ _ e => Heap.get?_push_of_some _ e) r₁ (ten_k hz)) (line_k ((VRs.length r₁).symm ▸ hz : vs.length ≤ 1000))
theorem se_list (es : MEs) (hs : SEs Y es) : SE Y (.list es) := fun B e loc c h x Q E g => by
  show wpAny _ _ (standAt _ >>= fun _ => spliced (backTo _ (starEach _ _)) >>= fun vs => newList vs) _ _ _
  refine wpAny_bind (wpAny_standAt (wpAny_bind (hs.seqL (and_l h) x g fun c₁ vs ms k₁ s₁ r₁ hl g => ?_)))
  have hz : ms.length ≤ 1000 := hl ▸ of_decide_eq_true (and_r h)
  exact wpAny_newList (g.list (n := 0) k₁ _ (Heap.get?_push_size _ rfl) (k₁.free (Nat.le_refl _)) (fun _ _ _ e => Heap.get?_push_of_some _ e) r₁ (ten_k hz)) (line_k ((VRs.length r₁).symm ▸ hz : vs.length ≤ 1000))
theorem eval_Call (t : Pt) (xs : List Expr) (env : Env) : eval (exCall t xs) env = (eval (.Name t.s t.q) env >>= fun g => callWith t.p g [] (backTo t.p (starEach xs env)) []) := rfl
theorem At.mono {A : Around} {l : List Env} {D U : Nat} (h : At A l D U) : At A l (D + 1) (U + 1) := ⟨h.fr, h.h, Nat.le_succ_of_le h.d, Nat.le_succ_of_le h.u⟩
theorem wp_cf {B : Blk Y} {f : Nat} {a : Addr} {args : List MV} {vals : List Value} {c : Cf} (hf : flook f Y.T.fadr = some a) (hnr : NotInit Y.P f) (k : c.Ok Y) (F : FramesOk c B.l) (hv : VRs Y c.Z c.φ args vals) :
    Wk Y B.A B.l (call (.ref a) vals) (VRc Y) (B.cf f args c.H) c := fun Q E g => wpAny_call (codeAny_mono (B.CO f a args vals c B.A B.l hf hnr k hv F B.at_.mono Q E g) fun r s' h => by
  cases r with
  | ok fl => cases fl <;> first | exact h | exact h.elim
  | error e => exact h)
theorem se_call (f : Nat) (es : MEs) (hs : SEs Y es) : SE Y (.call f es) := fun B e loc c h x Q E g =>
  wp_of (eval_Call ..) (wpAny_bind (glob_fn B.V x.K (and_l h) fun a e1 e2 => wp_callRef (first := []) (hs.stars _ _ (and_r h)) e2 (hs.seqL (and_r h) x g fun c₁ vs ms k₁ s₁ r₁ hl g => ⟨k₁.kin, wp_cf e1 (Y.rfun _ f (gOk_of (and_l h)).2.1) k₁ (x.F.step s₁) r₁ Q E g⟩)))
theorem se_new (ci : Nat) (es : MEs) (hs : SEs Y es) : SE Y (.new ci es) := fun B e loc c h x Q E g =>
  wp_of (eval_Call ..) (wpAny_bind (glob_cls B.V x.K (and_l h) fun C e1 e2 => wp_callRef (first := []) (hs.stars _ _ (and_r h)) e2 (hs.seqL (and_r h) x g fun c₁ vs ms k₁ s₁ r₁ hl g => ⟨k₁.kin, by
    obtain ⟨k, ek, g⟩ := g.opt
    cases hr : k.record with
    | true => rw [if_pos hr] at g; exact wp_new_rec B.RO k₁ ek hr e1 r₁ (x.F.step s₁) B.N B.at_ Q E g
    | false => rw [if_neg (show ¬ k.record = true from fun q => Bool.noConfusion (hr.symm.trans q))] at g; exact wp_new_obj B.CO k₁ ek hr e1 r₁ (x.F.step s₁) B.N B.at_ Q E g⟩)))
theorem meth_init {P : Prg} {T : Tie} (rm : ∀ (cj : Nat) (k' : MCls) (m f : Nat), P.cls[cj]? = some k' → flook m k'.meths = some f → NotInit P f) {v : MV} {m f : Nat} {H : MH} (e : methOf P v m H = some f) : NotInit P f :=
  let ⟨ci, _, e⟩ := of_bind e; let ⟨k, h, e⟩ := of_bind e; rm ci k m f h e
theorem se_meth (a : ME) (mn : Nat) (es : MEs) (ha : SE Y a) (hs : SEs Y es) : SE Y (.meth a mn es) := fun B e loc c h x Q E g => by
  have h2 := and_r h
  have hc := not_t (and_l h2)
  have h3 := and_r h2
  have h4 := and_r h3
  have hst := hs.stars B.sc _ (and_l h3)
  refine wp_of (arm_eval_Call ..) ?_
  have hbase : attributeBase (ex Y.T a (parts e).a) (nameOf Y.T mn) B.env (eval (ex Y.T a (parts e).a) B.env) = eval (ex Y.T a (parts e).a) B.env := by
    revert hc
    cases ex Y.T a (parts e).a <;> first | exact fun _ => rfl | exact fun h => nomatch h
  rw [hbase]
  refine wpAny_bind ((ha B _ loc c (and_l h) x).seq g fun c₁ ov m k₁ s₁ r₁ g => wpAny_bind (wpAny_standAt ?_))
  obtain ⟨f, ef, g⟩ := g.opt
  have hform : methodCallForm ((exs Y.T es (parts e).xs).length + 0) (backTo (parts e).p (starEach (exs Y.T es (parts e).xs) B.env)) (backToKw (parts e).p (keywordEach [] B.env)) = true := by
    have hx : (exs Y.T es (parts e).xs).length ≤ 20 := of_decide_eq_true (and_l h4)
    have hall : (backTo (parts e).p (starEach (exs Y.T es (parts e).xs) B.env)).all (!·.1) = true := by
      have := backTo_plain (p := (parts e).p) (env := B.env) hst
      rw [List.all_eq_not_any_not]; simpa using this
    unfold methodCallForm
    rw [hall]
    simp [keywordEach, backToKw]; omega
  have hpos : methodCallPos true (ex Y.T a (parts e).a) B.env (parts e).q (parts e).p = pure (parts e).p := by
    unfold methodCallPos; rw [and_r h4]; rfl
  unfold methodCall
  rw [show ([] : List Keyword).length = 0 from rfl, hform]
  refine wpAny_bind (wpAny_holding (wp_method k₁ r₁ ef fun a e1 e2 => ?_))
  show wpAny _ _ (methodCallPos true _ B.env (parts e).q (parts e).p >>= fun cp => callWith cp (.ref a) [ov] (backTo (parts e).p (starEach _ B.env)) (backToKw (parts e).p (keywordEach [] B.env))) _ _ _
  rw [hpos]
  exact wpAny_bind (wpAny_pure (wp_callRef (first := [ov]) hst e2 (hs.seqL (and_l h3) (x.step s₁ k₁) g fun c₂ vs ms k₂ s₂ r₂ hl g => ⟨k₂.kin, wp_cf e1 (meth_init (T := Y.T) Y.rmeth ef) k₂ (x.F.step (s₁.trans s₂)) (show VRs Y c₂.Z c₂.φ (m :: ms) ([ov] ++ vs) from ⟨ov, vs, rfl, r₁.step s₂.toStB, r₂⟩) Q E g⟩)))
theorem wp_blt1 {B : Blk Y} {b : Nat} {a : ME} (ha : SE Y a) (hk : keeperOf (bltV b) = keeperOf (.builtin "len")) {e : Expr} {loc : Loc} {c : Cf} (h : okG Y.T B.sc e (.blt b) = true) (h2 : (ok Y.T B.sc a (hd1 (parts e).xs) && noStar (ex Y.T a (hd1 (parts e).xs))) = true) (x : Ex B loc c)
    {γ δ : Type} {R' : Cf → γ → δ → Prop} {f : MV → MH → RS δ} {Q : Value → Shared → Prop} {Q' : γ → Shared → Prop} {E : Value → Shared → Prop} (g : Go Y B.l R' ((evalE Y.P B.cf a loc c.H).bind f) c Q' E)
    (k : ∀ c₁ v m, c₁.Ok Y → Step c c₁ → VRc Y c₁ v m → Go Y B.l R' (f m c₁.H) c₁ Q' E → wpAny Y.M B.A (call (bltV b) [v]) Q E c₁.s) : wpAny Y.M B.A (eval (exCall (parts e) [ex Y.T a (hd1 (parts e).xs)]) B.env) Q E c.s :=
  wp_of (eval_Call ..) (wpAny_bind (glob_blt B.V x.K h (wp_callBlt (NoStars.cons (and_r h2) NoStars.nil) hk (by
    rw [backTo_cons (and_r h2)]
    exact spliced_cons ((ha B _ loc c (and_l h2) x).seq g fun c₁ v m k₁ s₁ r₁ g => spliced_nil (k c₁ v m k₁ s₁ r₁ g))))))
theorem wp_blt2 {B : Blk Y} {n : Nat} {a b : ME} (ha : SE Y a) (hb : SE Y b) (hk : keeperOf (bltV n) = keeperOf (.builtin "len")) {e : Expr} {loc : Loc} {c : Cf} (h : okG Y.T B.sc e (.blt n) = true) (h2 : (ok Y.T B.sc a (hd1 (parts e).xs) && noStar (ex Y.T a (hd1 (parts e).xs))) = true) (h3 : (ok Y.T B.sc b (hd2 (parts e).xs) && noStar (ex Y.T b (hd2 (parts e).xs))) = true) (x : Ex B loc c)
    {γ δ : Type} {R' : Cf → γ → δ → Prop} {f : MV → MV → MH → RS δ} {Q : Value → Shared → Prop} {Q' : γ → Shared → Prop} {E : Value → Shared → Prop} (g : Go Y B.l R' ((evalE Y.P B.cf a loc c.H).bind fun v H => (evalE Y.P B.cf b loc H).bind fun w H => f v w H) c Q' E)
    (k : ∀ c₂ v m w m', c₂.Ok Y → Step c c₂ → VRc Y c₂ v m → VRc Y c₂ w m' → Go Y B.l R' (f m m' c₂.H) c₂ Q' E → wpAny Y.M B.A (call (bltV n) [v, w]) Q E c₂.s) : wpAny Y.M B.A (eval (exCall (parts e) [ex Y.T a (hd1 (parts e).xs), ex Y.T b (hd2 (parts e).xs)]) B.env) Q E c.s :=
  wp_of (eval_Call ..) (wpAny_bind (glob_blt B.V x.K h (wp_callBlt (NoStars.cons (and_r h2) (NoStars.cons (and_r h3) NoStars.nil)) hk (by
    rw [backTo_cons (and_r h2), backTo_cons (and_r h3)]
    exact spliced_cons ((ha B _ loc c (and_l h2) x).seq g fun c₁ v m k₁ s₁ r₁ g => spliced_cons ((hb B _ loc c₁ (and_l h3) (x.step s₁ k₁)).seq g fun c₂ w m' k₂ s₂ r₂ g => spliced_nil (k c₂ v m w m' k₂ (s₁.trans s₂) (r₁.step s₂.toStB) r₂ g)))))))
theorem se_len (a : ME) (ha : SE Y a) : SE Y (.len a) := fun B e loc c h x Q E g => wp_blt1 ha rfl (and_l h) (and_r h) x g fun c₁ v m k₁ s₁ r₁ g => let ⟨_, q, g⟩ := g.opt; blt_len k₁ r₁ q g
theorem se_max1 (a : ME) (ha : SE Y a) : SE Y (.max1 a) := fun B e loc c h x Q E g => wp_blt1 ha rfl (and_l h) (and_r h) x g fun c₁ v m k₁ s₁ r₁ g => let ⟨_, q, g⟩ := g.opt; let ⟨_, _, hL⟩ := (x.step s₁ k₁).top; blt_max1 k₁ hL B.at_.h r₁ q g
theorem se_tupleOf (a : ME) (ha : SE Y a) : SE Y (.tupleOf a) := fun B e loc c h x Q E g => wp_blt1 ha rfl (and_l h) (and_r h) x g fun c₁ v m k₁ s₁ r₁ g => let ⟨_, q, g⟩ := g.opt; blt_tuple k₁ (MV.list_of q ▸ r₁) g
theorem se_bytesOf (a : ME) (ha : SE Y a) : SE Y (.bytesOf a) := fun B e loc c h x Q E g => wp_blt1 ha rfl (and_l h) (and_r h) x g fun c₁ v m k₁ s₁ r₁ g => let ⟨_, q, g⟩ := g.opt; blt_bytes k₁ r₁ q B.at_.h g
theorem se_min2 (a b : ME) (ha : SE Y a) (hb : SE Y b) : SE Y (.min2 a b) := fun B e loc c h x Q E g => wp_blt2 ha hb rfl (and_l h) (and_l (and_r h)) (and_r (and_r h)) x g fun c₂ v m w n k₂ s₂ r₁ r₂ g => by
  obtain ⟨_, q, g⟩ := g.opt
  obtain ⟨i, j, rfl, rfl, q⟩ := intz_of q
  obtain ⟨t, rfl⟩ := r₁; obtain ⟨u, rfl⟩ := r₂; cases q
  obtain ⟨L, fm, hL⟩ := (x.step s₂ k₂).top
  exact blt_min k₂ hL B.at_.h g
theorem se_max2 (a b : ME) (ha : SE Y a) (hb : SE Y b) : SE Y (.max2 a b) := fun B e loc c h x Q E g => wp_blt2 ha hb rfl (and_l h) (and_l (and_r h)) (and_r (and_r h)) x g fun c₂ v m w n k₂ s₂ r₁ r₂ g => by
  obtain ⟨_, q, g⟩ := g.opt
  obtain ⟨i, j, rfl, rfl, q⟩ := intz_of q
  obtain ⟨t, rfl⟩ := r₁; obtain ⟨u, rfl⟩ := r₂; cases q
  obtain ⟨L, fm, hL⟩ := (x.step s₂ k₂).top
  exact blt_max k₂ hL B.at_.h g
end
end Mini
end
noncomputable section
namespace Mini
open PySem PySem.W PySem.Calls PyProof.Rows
section
variable {Y : Sys}
noncomputable def Blk.inner (B : Blk Y) {scope : Scope} {y : Str} {x : Nat} (F : CompFacts B.sc scope y x) (L : Addr) (cl : List (Str × Addr)) (hcl : ∀ p ∈ scope.names, p.2 = .free → cl.lookup p.1 = B.env.cells.lookup p.1) : Blk Y :=
  { B with env := compEnv B.env scope L cl, sc := B.sc.inner scope.names y x, V := compEnv_ok B.V F L cl, C := compEnv_cells F hcl B.C }
theorem Ex.inner {B : Blk Y} {loc : Loc} {c c' : Cf} {scope : Scope} {y : Str} {x : Nat} {L : Addr} {cl : List (Str × Addr)} {m : Str → Option Value} {rv : Value} {v : MV} (xx : Ex B loc c) (F : CompFacts B.sc scope y x)
    (hcl : ∀ p ∈ scope.names, p.2 = .free → cl.lookup p.1 = B.env.cells.lookup p.1) (s : Step c c') (k : c'.Ok Y) (hm : c'.Mu L = some (.fr m)) (hy : m y = some rv) (hv : VR Y c'.Z c'.φ v rv) :
    Ex (B.inner F L cl hcl) (loc.set x (.val v)) c' := ⟨compEnv_loc B.V F hcl (xx.L.step s) hm hy hv, k, xx.F.step s⟩
noncomputable def compG (P : Prg) (cf : Nat → List MV → MH → RS MV) (elt : ME) (y : Nat) (loc : Loc) : MV → MH → RS (Option MV) := fun v H => (evalE P cf elt (loc.set y (.val v)) H).bind fun w H => .ok (some w) H
noncomputable def compIfG (P : Prg) (cf : Nat → List MV → MH → RS MV) (elt : ME) (t : MT) (y : Nat) (loc : Loc) : MV → MH → RS (Option MV) := fun v H => (evalT P cf t (loc.set y (.val v)) H).bind fun b H => if b then (evalE P cf elt (loc.set y (.val v)) H).bind fun w H => .ok (some w) H else .ok none H
theorem Go.some {l : List Env} {c' : Cf} {r : RS MV} {ro : Option MV} {H : MH} {E : Value → Shared → Prop} {Q₁ : Value → Shared → Prop} (hg : (r.bind fun w H => RS.ok (some w) H) = .ok ro H)
    (q : ∀ c₂ x mv, c₂.Ok Y → Step c' c₂ → ro = some mv → H = c₂.H → VR Y c₂.Z c₂.φ mv x → Q₁ x c₂.s) : Go Y l (VRc Y) r c' Q₁ E :=
  ⟨fun e => (by rw [e] at hg; cases hg), fun c₂ v b k s e rv => (by rw [e] at hg; cases hg; exact q c₂ v b k s rfl rfl rv), fun c₂ k e a C B a0 _ _ e' _ => (by rw [e'] at hg; cases hg)⟩
theorem turn_comp {B : Blk Y} {elt : ME} (he : SE Y elt) {e : Expr} {loc : Loc} {c : Cf} {scope : Scope} {y : Str} {x : Nat} (xx : Ex B loc c) (F : CompFacts B.sc scope y x) (h : ok Y.T (B.sc.inner scope.names y x) elt e = true) (L : Addr) (cl : List (Str × Addr))
    (hcl : ∀ p ∈ scope.names, p.2 = .free → cl.lookup p.1 = B.env.cells.lookup p.1) : Turn Y B.A c (compEnv B.env scope L cl) [] (ex Y.T elt e) y (compG Y.P B.cf elt x loc) :=
  fun c' _ _ _ _ _ E Q₁ _ k' s' hm hy hv hg q1 _ => wpAny_pure (he (B.inner F L cl hcl) e _ c' h (xx.inner F hcl s' k' hm hy hv) Q₁ E (Go.some hg q1))
theorem turn_compIf {B : Blk Y} {elt : ME} {t : MT} (he : SE Y elt) (ht : ST Y t) {e e' : Expr} {loc : Loc} {c : Cf} {scope : Scope} {y : Str} {x : Nat} (xx : Ex B loc c) (F : CompFacts B.sc scope y x) (h : ok Y.T (B.sc.inner scope.names y x) elt e = true) (h' : okT Y.T (B.sc.inner scope.names y x) t e' = true) (L : Addr) (cl : List (Str × Addr))
    (hcl : ∀ p ∈ scope.names, p.2 = .free → cl.lookup p.1 = B.env.cells.lookup p.1) : Turn Y B.A c (compEnv B.env scope L cl) [exT Y.T t e'] (ex Y.T elt e) y (compIfG Y.P B.cf elt t x loc) := by
  intro c' rv v m r H E Q₁ Q₂ k' s' hm hy hv hg q1 q2
  have xi := xx.inner F hcl s' k' hm hy hv
  unfold compIfG at hg
  refine wpAny_tests_one (ht (B.inner F L cl hcl) e' _ c' h' xi _ E ⟨fun e => (by rw [show evalT Y.P B.cf t (loc.set x (.val v)) c'.H = .bad from e] at hg; cases hg), fun c₂ b b' k₂ t₂ e₂ r₂ => ?_, fun c₂ kk e a C B' a0 _ _ e₂ _ => (by rw [show evalT Y.P B.cf t (loc.set x (.val v)) c'.H = _ from e₂] at hg; cases hg)⟩)
  rw [show evalT Y.P B.cf t (loc.set x (.val v)) c'.H = _ from e₂] at hg
  cases r₂
  cases b with
  | false => cases hg; exact q2 c₂ k₂ t₂ rfl rfl
  | true => exact he (B.inner F L cl hcl) e _ c₂ h (xi.step t₂ k₂) Q₁ E (Go.some hg fun c₃ z mv k₃ t₃ => q1 c₃ z mv k₃ (t₂.trans t₃))
theorem comp_fin {l : List Env} {A : Around} {c : Cf} {ri : RS (List MV)} {g : MV → MH → RS (Option MV)} {Q : Value → Shared → Prop} {E : Value → Shared → Prop} (gg : Go Y l (VRc Y) (compR ri g) c Q E) : CompFin Y A c ri g none Q E := fun c' D ws m L k' t' e' v' l' hL =>
  ⟨m, k'.ns l', fun h' hs => gg.ok (c'.setM L none h' c'.s.toks) _ _ (k'.setM c'.s.toks (k'.un l' rfl) (fun b o n e => (hs.2 b n).trans e) fun _ h => nomatch h) (t'.setM hL) e' v'⟩
theorem comp_ex {l : List Env} {c : Cf} {ri : RS (List MV)} {g : MV → MH → RS (Option MV)} {Q : Value → Shared → Prop} {E : Value → Shared → Prop} (gg : Go Y l (VRc Y) (compR ri g) c Q E) : ∀ c' k e a C B a0, c'.Ok Y → Step c c' → ri = .ex k c'.H → Flown Y c' l e k a C B a0 → E e c'.s :=
  fun c' k e a C B a0 o s e' => gg.ex c' k e a C B a0 o s (by unfold compR; rw [e']; rfl)
theorem se_comp (elt : ME) (x : Nat) (it : MI) (he : SE Y elt) (hi : SIt Y it) : SE Y (.comp elt x it) := fun B e loc c h xx Q E g => by
  have F := compFacts (and_l h)
  have h2 := and_r h
  exact wp_of (arm_eval_ListComp ..) (comp_core (use := none) (g := compG Y.P B.cf elt x loc) (l := B.l) B.V F B.at_.h (hi.plain _ _ _ · (and_l h2)) B.C (hi.run B _ loc c (and_l h2) xx) (turn_comp he xx F (and_r h2)) g.nb (comp_ex g) (comp_fin g))
theorem se_compIf (elt : ME) (x : Nat) (it : MI) (t : MT) (he : SE Y elt) (hi : SIt Y it) (ht : ST Y t) : SE Y (.compIf elt x it t) := fun B e loc c h xx Q E g => by
  have F := compFacts (and_l h)
  have h2 := and_r h
  exact wp_of (arm_eval_ListComp ..) (comp_core (use := none) (g := compIfG Y.P B.cf elt t x loc) (l := B.l) B.V F B.at_.h (hi.plain _ _ _ · (and_l h2)) B.C (hi.run B _ loc c (and_l h2) xx) (turn_compIf he ht xx F (and_l (and_r h2)) (and_r (and_r h2))) g.nb (comp_ex g) (comp_fin g))
theorem own_slot {sc : SC} {x : Str} {i : Nat} (h : sc.own x = some i) : sc.slot x = some i := by
  unfold SC.own at h; unfold SC.slot
  split at h
  · rename_i q
    rw [if_pos (by rw [and_l q, not_t (and_r q)]; rfl)]; exact h
  · cases h
theorem own_of {sc : SC} {e : Expr} {i : Nat} (h : okAcc sc e i = true) : sc.own (parts e).s = some i := beq_iff_eq.mp (and_l h)
theorem eval_acc {B : Blk Y} {A : Around} {loc : Loc} {c : Cf} (x : Ex B loc c) {e : Expr} {i : Nat} {xs : List MV} {Q : Value → Shared → Prop} {E : Value → Shared → Prop} (h : okAcc B.sc e i = true) (q : (lget loc i).acc? = some xs)
    (k : ∀ a vs n, c.Mu a = some (.ex (listOf (vs : List Value).toArray n)) → VRs Y c.Z c.φ xs vs → xs.length ≤ 2000 → Q (.ref a) c.s) : wpAny Y.M A (eval (asName e) B.env) Q E c.s :=
  eval_slot B.V x.K x.L (own_slot (own_of h)) (LV.acc_of q) (fun z => nomatch z) fun r _ ⟨a, vs, n, e, h1, h2, h3⟩ => e ▸ k a vs n h1 h2 h3
theorem two_k {n : Nat} (h : n ≤ 2000) : n ≤ 10000000 := Nat.le_trans h (by decide)
theorem se_accLast (i : Nat) : SE Y (.accLast i) := fun B e loc c h x Q E g => by
  obtain ⟨xs, q, g⟩ := Go.opt (o := (lget loc i).acc?) g
  obtain ⟨r, er, g⟩ := g.opt
  refine wp_Subscript (eval_acc x h q fun a vs n hm hv hz => wpAny_UnaryOp (wpAny_Constant_int (neg_int ?_)))
  have hlen : 0 < xs.length := match xs, er with | _ :: _, _ => Nat.succ_pos _
  have k2 := x.K.heap (c.s.toks + 1 + 1) fun _ _ e => e
  refine tail_any (x.K.isListM hm).typeIs slot_list_getitem.lookup (wp_item (c := c.heap c.s.heap (c.s.toks + 1 + 1)) (j := xs.length - 1) (k2.isListM hm) hv (two_k hz) ?_ (by rw [← List.getLast?_eq_getElem?]; exact er) fun v hv => g.tok x.K _ hv) rfl
  unfold place guardO
  rw [if_neg (by decide), if_pos (by simp; omega)]
  congr 1; omega
theorem se_accIdx (i : Nat) (a : ME) (ha : SE Y a) : SE Y (.accIdx i a) := fun B e loc c h x Q E g => by
  obtain ⟨xs, q, g⟩ := Go.opt (o := (lget loc i).acc?) g
  refine wp_of (eval_Sub ..) (wpAny_bind (eval_acc x (and_l h) q fun ad vs n hm hv hz => wpAny_bind (wpAny_holding ((ha B _ loc c (and_l (and_r h)) x).seq g fun c₁ v m k₁ s₁ r₁ g => wpAny_bind (wpAny_standAt ?_)))))
  obtain ⟨r, er, g₂⟩ := g.opt
  obtain ⟨j, q1, e1⟩ := of_bind er
  cases MV.int_of q1
  obtain ⟨t, rfl⟩ := r₁
  by_cases hj : 0 ≤ j
  · rw [if_pos hj] at e1
    have hm1 := s₁.keep rfl hm
    exact tail_any (k₁.isListM hm1).typeIs slot_list_getitem.lookup (wp_item (j := j.toNat) (k₁.isListM hm1) (VRs.mono s₁.z s₁.p _ hv) (two_k hz) (by unfold place; rw [if_pos hj]) e1 fun v hv => g₂.here k₁ hv) (sub_plain (and_r (and_r h)))
  · rw [if_neg hj] at e1; cases e1
theorem acc_star (e : Expr) : noStar (asName e) = true := rfl
theorem se_accLen (i : Nat) : SE Y (.accLen i) := fun B e loc c h x Q E g => by
  obtain ⟨xs, q, g⟩ := Go.opt (o := (lget loc i).acc?) g
  refine wp_of (eval_Call ..) (wpAny_bind (glob_blt B.V x.K (and_l h) (wp_callBlt (NoStars.cons (acc_star _) NoStars.nil) rfl ?_)))
  rw [backTo_cons (acc_star _)]
  exact spliced_cons (eval_acc x (and_r h) q fun a vs n hm hv hz => spliced_nil (blt_lenM x.K hm hv hz g))
theorem ses_nil : SEs Y .nil where
  args B xs loc c p h x Q E g := spliced_nil (g.here x.K rfl)
  stars sc xs h := NoStars.nil
  bool a B xs loc c p h x Q E g := absurd rfl g.nb
theorem ses_cons (e : ME) (r : MEs) (he : SE Y e) (hr : SEs Y r) : SEs Y (.cons e r) where
  args B xs loc c p h x Q E g := by
    show wpAny _ _ (spliced (backTo p (starEach (ex Y.T e (hd1 xs) :: exs Y.T r xs.tail) B.env))) _ _ _
    rw [backTo_cons (and_r (and_l h))]
    exact spliced_cons ((he B _ loc c (and_l (and_l h)) x).seq g fun c₁ v m k₁ s₁ r₁ g => (hr.args B _ loc c₁ p (and_r h) (x.step s₁ k₁)).seq g fun c₂ vs ms k₂ s₂ r₂ g => g.here k₂ ⟨v, vs, rfl, r₁.step s₂.toStB, r₂⟩)
  stars sc xs h := NoStars.cons (and_r (and_l h)) (hr.stars sc _ (and_r h))
  bool a B xs loc c p h x Q E g := by
    cases r with
    | nil => exact he B _ loc c (and_l (and_l h)) x Q E g
    | cons e' r' =>
      show wpAny _ _ (eval (ex Y.T e (hd1 xs)) B.env >>= fun v => standAt p >>= fun _ => holding [v] (truthy v) >>= fun t => match (if a then BoolOp.And else BoolOp.Or), t with
        | .And, false | .Or, true => pure v
        | _, _ => boolOp p (if a then .And else .Or) (evalEach (exs Y.T (.cons e' r') xs.tail) B.env)) _ _ _
      refine wpAny_bind ((he B _ loc c (and_l (and_l h)) x).seq (f := fun v H => opt (truth v) fun b => if b = a then evalB Y.P B.cf a (.cons e' r') loc H else .ok v H) g fun c₁ v m k₁ s₁ r₁ g => wpAny_bind (wpAny_standAt ?_))
      obtain ⟨b, q, g⟩ := g.opt
      refine wpAny_bind (wpAny_holding (wp_truth r₁ q ?_))
      have ih := hr.bool a B xs.tail loc c₁ p (and_r h) (x.step s₁ k₁) Q E
      cases a <;> cases b
      · exact ih g
      · exact wpAny_pure (g.here k₁ r₁)
      · exact wpAny_pure (g.here k₁ r₁)
      · exact ih g
theorem cmp_bind {r : RS MV} {f : MV → MH → RS Bool} {c : Cf} {l : List Env} {Q : Value → Shared → Prop} {E : Value → Shared → Prop} (g : Go Y l (VRc Y) ((r.bind f).bind fun b H => .ok (.bool b) H) c Q E) : Go Y l (VRc Y) (r.bind fun w H => (f w H).bind fun b H => .ok (.bool b) H) c Q E := RS.assoc r f _ ▸ g
theorem opt_bind {o : Option Bool} {f : Bool → RS Bool} {c : Cf} {l : List Env} {Q : Value → Shared → Prop} {E : Value → Shared → Prop} (g : Go Y l (VRc Y) ((opt o f).bind fun b H => .ok (.bool b) H) c Q E) : ∃ b, o = some b ∧ Go Y l (VRc Y) ((f b).bind fun b H => .ok (.bool b) H) c Q E := match o, g with
  | some b, g => ⟨b, rfl, g⟩
  | none, g => absurd rfl g.nb
theorem marks_one {o : Cp} {x : Expr} (h : noSet x = true) (env : Env) : markedBehindIn (realCp o) x (eval x env) = eval x env := by
  have : behindInMarks (realCp o) x = false := by cases x <;> first | rfl | cases h
  unfold markedBehindIn
  rw [this]
theorem sc_one (o : Cp) (e : ME) (he : SE Y e) : SC' Y (.one o e) where
  chain B xs loc c v m p h x hv Q E g := by
    show wpAny _ _ (holding [v] (eval (ex Y.T e (hd1 xs)) B.env) >>= fun rv => standAt p >>= fun _ => operate [v, rv] (compareOp (realCp o) v rv)) _ _ _
    refine wpAny_bind (wpAny_holding ((he B _ loc c (and_l h) x).seq (cmp_bind (r := evalE Y.P B.cf e loc c.H) g) fun c₁ rv n k₁ s₁ r₁ g => wpAny_bind (wpAny_standAt ?_)))
    obtain ⟨b, q, g⟩ := opt_bind g
    exact wpAny_operateT (wp_cmpop k₁ (hv.step s₁.toStB) r₁ q B.u (g.here k₁ rfl))
  test B xs loc c v m p h x hv Q E g := by
    show wpAny _ _ (holding [v] (eval (ex Y.T e (hd1 xs)) B.env) >>= fun rv => standAt p >>= fun _ => operate [v, rv] (compareOp (realCp o) v rv) >>= fun cc => holding [cc] (truthy cc)) _ _ _
    refine wpAny_bind (wpAny_holding ((he B _ loc c (and_l h) x).seq g fun c₁ rv n k₁ s₁ r₁ g => wpAny_bind (wpAny_standAt (wpAny_bind (wpAny_operateT ?_)))))
    obtain ⟨b, q, g⟩ := g.opt
    exact wp_cmpop k₁ (hv.step s₁.toStB) r₁ q B.u (wpAny_holding (wpAny_truthy_bool (g.here k₁ rfl)))
  marks sc xs env h := congrArg (· :: []) (marks_one (and_r h) env)
theorem sc_cons (o : Cp) (e : ME) (r : MCs) (he : SE Y e) (hr : SC' Y r) : SC' Y (.cons o e r) where
  chain B xs loc c v m p h x hv Q E g := by
    have main : wpAny Y.M B.A (holding [v] (eval (ex Y.T e (hd1 xs)) B.env) >>= fun rv => standAt p >>= fun _ => holding [v, rv] (compareOp (realCp o) v rv) >>= fun cc => release [v, rv] [cc] >>= fun _ => holding [cc, rv] (truthy cc) >>= fun t => if t = true then compareChain p rv (opsC r) (evalEach (exC Y.T r xs.tail) B.env) else pure cc) Q E c.s := by
      refine wpAny_bind (wpAny_holding ((he B _ loc c (and_l h) x).seq (cmp_bind (r := evalE Y.P B.cf e loc c.H) g) fun c₁ rv n k₁ s₁ r₁ g => wpAny_bind (wpAny_standAt ?_)))
      obtain ⟨b, q, g⟩ := opt_bind g
      refine wpAny_bind (wpAny_holding (wp_cmpop k₁ (hv.step s₁.toStB) r₁ q B.u (wpAny_bind (wpAny_release (wpAny_bind (wpAny_holding (wpAny_truthy_bool ?_)))))))
      cases b with
      | false => exact wpAny_pure (g.here k₁ rfl)
      | true => exact hr.chain B _ loc c₁ rv n p (and_r (and_r h)) (x.step s₁ k₁) r₁ Q E g
    cases r <;> exact main
  test B xs loc c v m p h x hv Q E g := by
    have main : wpAny Y.M B.A (holding [v] (eval (ex Y.T e (hd1 xs)) B.env) >>= fun rv => standAt p >>= fun _ => holding [v, rv] (compareOp (realCp o) v rv) >>= fun cc => release [v, rv] [cc] >>= fun _ => holding [cc, rv] (truthy cc) >>= fun t => if t = true then testChain p rv (opsC r) (evalEach (exC Y.T r xs.tail) B.env) else pure false) Q E c.s := by
      refine wpAny_bind (wpAny_holding ((he B _ loc c (and_l h) x).seq g fun c₁ rv n k₁ s₁ r₁ g => wpAny_bind (wpAny_standAt ?_)))
      obtain ⟨b, q, g⟩ := g.opt
      refine wpAny_bind (wpAny_holding (wp_cmpop k₁ (hv.step s₁.toStB) r₁ q B.u (wpAny_bind (wpAny_release (wpAny_bind (wpAny_holding (wpAny_truthy_bool ?_)))))))
      cases b with
      | false => exact wpAny_pure (g.here k₁ rfl)
      | true => exact hr.test B _ loc c₁ rv n p (and_r (and_r h)) (x.step s₁ k₁) r₁ Q E g
    cases r <;> exact main
  marks sc xs env h := by
    have := congrArg (List.cons (eval (ex Y.T e (hd1 xs)) env)) (hr.marks sc xs.tail env (and_r (and_r h)))
    cases r <;> exact this
theorem st_e (a : ME) (ha : SE Y a) : ST Y (.e a) := fun B e loc c h x Q E g =>
  wpAny_isTrue_value ((ha B e loc c (and_l h) x).seq g fun c₁ v m k₁ s₁ r₁ g => let ⟨_, q, g⟩ := g.opt; wp_truth r₁ q (g.here k₁ rfl)) (by
    have := and_r h
    revert this
    show plainTest (ex Y.T a e) = true → _
    show plainTest (ex Y.T a e) = true → _ 
    unfold exT
    cases ex Y.T a e <;> first | exact fun _ => rfl | exact fun h => nomatch h)
theorem st_cmp (a : ME) (cs : MCs) (ha : SE Y a) (hc : SC' Y cs) : ST Y (.cmp a cs) := fun B e loc c h x Q E g => by
  refine wp_of (arm_isTrue_Compare ..) (wpAny_bind ((ha B _ loc c (and_l h) x).seq g fun c₁ v m k₁ s₁ r₁ g => ?_))
  rw [hc.marks B.sc _ _ (and_r h)]
  exact hc.test B _ loc c₁ v m _ (and_r h) (x.step s₁ k₁) r₁ _ _ g
theorem st_isNone (a : ME) (ha : SE Y a) : ST Y (.isNone a) := fun B e loc c h x Q E g =>
  wpAny_isTrue_Compare1 ((ha B _ loc c h x).seq g fun c₁ v m k₁ s₁ r₁ g => wpAny_Constant_none (wpAny_is_plain (vr_none r₁).1 (wpAny_truthy_bool ((vr_none r₁).2 ▸ g.here k₁ rfl))))
theorem st_notNone (a : ME) (ha : SE Y a) : ST Y (.notNone a) := fun B e loc c h x Q E g =>
  wpAny_isTrue_Compare1 ((ha B _ loc c h x).seq g fun c₁ v m k₁ s₁ r₁ g => wpAny_Constant_none (wpAny_isNot_plain (vr_none r₁).1 (wpAny_truthy_bool ((vr_none r₁).2 ▸ g.here k₁ rfl))))
theorem st_not (t : MT) (ht : ST Y t) : ST Y (.not t) := fun B e loc c h x Q E g =>
  wpAny_isTrue_Not ((ht B _ loc c h x).seq g fun c₁ v b k₁ s₁ r₁ g => g.here k₁ (congrArg (!·) r₁))
theorem st_and (ts : MTs) (hs : STs Y ts) : ST Y (.and ts) := fun B e loc c h x Q E g => wpAny_isTrue_BoolOp (hs true B _ loc c h x Q E g)
theorem st_or (ts : MTs) (hs : STs Y ts) : ST Y (.or ts) := fun B e loc c h x Q E g => wpAny_isTrue_BoolOp (hs false B _ loc c h x Q E g)
theorem st_acc (i : Nat) : ST Y (.acc i) := fun B e loc c h x Q E g => by
  obtain ⟨xs, q, g⟩ := Go.opt (o := (lget loc i).acc?) g
  refine wpAny_isTrue_value (eval_acc x h q fun a vs n hm hv hz => wpAny_truthy_list (x.K.isListM hm) (Int.ofNat_lt.mpr (Nat.lt_of_le_of_lt (hv.length ▸ hz : vs.length ≤ _) (by decide))) ?_) rfl
  exact g.ok (c.heap c.s.heap _) _ _ (x.K.heap _ fun _ _ e => e) (Step.heap c _ _) rfl (match xs, vs, hv.length with | [], [], _ => rfl | _ :: _, _ :: _, _ => rfl)
theorem sts_nil : STs Y .nil := fun a B xs loc c h x Q E g => by cases a <;> exact wpAny_pure (g.here x.K rfl)
theorem sts_cons (t : MT) (r : MTs) (ht : ST Y t) (hr : STs Y r) : STs Y (.cons t r) := fun a B xs loc c h x Q E g => by
  have main : wpAny Y.M B.A (isTrue (exT Y.T t (hd1 xs)) B.env (eval (exT Y.T t (hd1 xs)) B.env)) (fun v s' => if v = a then wpAny Y.M B.A (allTrue (if a then .And else .Or) (exTs Y.T r xs.tail) B.env) Q E s' else Q (!a) s') E c.s :=
    (ht B _ loc c (and_l h) x).seq g fun c₁ v b k₁ s₁ r₁ g => by
      cases r₁
      by_cases q : v = a
      · rw [if_pos q] at g ⊢; exact hr a B _ loc c₁ (and_r h) (x.step s₁ k₁) Q E g
      · rw [if_neg q] at g ⊢; exact g.here k₁ rfl
  cases a with
  | true => exact wpAny_allTrue_And_cons (wpAny_mono main (fun v s' h => by cases v <;> exact h) fun _ _ h => h)
  | false => exact wpAny_allTrue_Or_cons (wpAny_mono main (fun v s' h => by cases v <;> exact h) fun _ _ h => h)
theorem sit_range1 (a : ME) (ha : SE Y a) : SIt Y (.range1 a) where
  plain sc e env x h := rfl
  run B e loc c h x Q E g := wp_blt1 ha rfl (and_l h) (and_r h) x g fun c₁ v m k₁ s₁ r₁ g => by
    obtain ⟨xs, q, g⟩ := g.opt
    obtain ⟨n, q1, e1⟩ := of_bind q
    cases MV.int_of q1
    obtain ⟨p, rfl⟩ := of_guard e1
    obtain ⟨t, rfl⟩ := r₁
    obtain ⟨L, fm, hL⟩ := (x.step s₁ k₁).top
    exact blt_range1 k₁ s₁ hL (Nat.le_trans (of_decide_eq_true p) (by decide)) g
theorem sit_range2 (a b : ME) (ha : SE Y a) (hb : SE Y b) : SIt Y (.range2 a b) where
  plain sc e env x h := rfl
  run B e loc c h x Q E g := wp_blt2 ha hb rfl (and_l h) (and_l (and_r h)) (and_r (and_r h)) x g fun c₂ v m w n k₂ s₂ r₁ r₂ g => by
    obtain ⟨xs, q, g⟩ := g.opt
    obtain ⟨i, j, rfl, rfl, q⟩ := intz_of q
    obtain ⟨p, rfl⟩ := of_guard q
    obtain ⟨t, rfl⟩ := r₁; obtain ⟨u, rfl⟩ := r₂
    obtain ⟨L, fm, hL⟩ := (x.step s₂ k₂).top
    have p := of_decide_eq_true p
    exact blt_range2 k₂ s₂ hL p.1 p.2.1 g
theorem sit_sorted (a : ME) (ha : SE Y a) : SIt Y (.sorted a) where
  plain sc e env x h := rfl
  run B e loc c h x Q E g := wp_blt1 ha rfl (and_l h) (and_r h) x g fun c₁ v m k₁ s₁ r₁ g => by
    obtain ⟨xs, q, g⟩ := g.opt
    obtain ⟨L, fm, hL⟩ := (x.step s₁ k₁).top
    exact blt_sorted k₁ s₁ hL r₁ q g
theorem sit_over (a : ME) (ha : SE Y a) : SIt Y (.over a) where
  plain sc e env x h := by
    have := and_r h
    revert this
    show noSet (ex Y.T a e) = true → foldedSetIterable (ex Y.T a e) env x = _
    cases ex Y.T a e <;> first | exact fun _ => rfl | exact fun h => nomatch h
  run B e loc c h x Q E g := (ha B e loc c (and_l h) x).seq g fun c₁ v m k₁ s₁ r₁ g => by
    obtain ⟨xs, q, g⟩ := g.opt
    exact iter_list k₁ s₁ (MV.list_of q ▸ r₁) g
end
end Mini
end
noncomputable section
namespace Mini
open PySem PySem.W PySem.Calls PyProof.Rows
variable {Y : Sys}
theorem soundE (e : ME) : SE Y e :=
  @ME.rec (SE Y) (SEs Y) (SC' Y) (ST Y) (STs Y) (SIt Y) se_bad se_none se_tt se_ff se_int se_neg se_bnil se_gint se_var se_attr se_bin se_cmp se_isNone se_notNone se_and se_or se_not se_ite se_idx se_sliceA se_sliceL se_sliceU se_sliceLU se_tup se_list se_comp se_compIf se_call se_new se_meth se_len se_min2 se_max2 se_max1 se_tupleOf se_bytesOf se_accLast se_accIdx se_accLen se_key
    ses_nil ses_cons sc_one sc_cons st_e st_cmp st_isNone st_notNone st_not st_and st_or st_acc sts_nil sts_cons sit_range1 sit_range2 sit_sorted sit_over e
theorem soundEs (e : MEs) : SEs Y e :=
  @MEs.rec (SE Y) (SEs Y) (SC' Y) (ST Y) (STs Y) (SIt Y) se_bad se_none se_tt se_ff se_int se_neg se_bnil se_gint se_var se_attr se_bin se_cmp se_isNone se_notNone se_and se_or se_not se_ite se_idx se_sliceA se_sliceL se_sliceU se_sliceLU se_tup se_list se_comp se_compIf se_call se_new se_meth se_len se_min2 se_max2 se_max1 se_tupleOf se_bytesOf se_accLast se_accIdx se_accLen se_key
    ses_nil ses_cons sc_one sc_cons st_e st_cmp st_isNone st_notNone st_not st_and st_or st_acc sts_nil sts_cons sit_range1 sit_range2 sit_sorted sit_over e
theorem soundT (e : MT) : ST Y e :=
  @MT.rec (SE Y) (SEs Y) (SC' Y) (ST Y) (STs Y) (SIt Y) se_bad se_none se_tt se_ff se_int se_neg se_bnil se_gint se_var se_attr se_bin se_cmp se_isNone se_notNone se_and se_or se_not se_ite se_idx se_sliceA se_sliceL se_sliceU se_sliceLU se_tup se_list se_comp se_compIf se_call se_new se_meth se_len se_min2 se_max2 se_max1 se_tupleOf se_bytesOf se_accLast se_accIdx se_accLen se_key
    ses_nil ses_cons sc_one sc_cons st_e st_cmp st_isNone st_notNone st_not st_and st_or st_acc sts_nil sts_cons sit_range1 sit_range2 sit_sorted sit_over e
theorem soundI (e : MI) : SIt Y e :=
  @MI.rec (SE Y) (SEs Y) (SC' Y) (ST Y) (STs Y) (SIt Y) se_bad se_none se_tt se_ff se_int se_neg se_bnil se_gint se_var se_attr se_bin se_cmp se_isNone se_notNone se_and se_or se_not se_ite se_idx se_sliceA se_sliceL se_sliceU se_sliceLU se_tup se_list se_comp se_compIf se_call se_new se_meth se_len se_min2 se_max2 se_max1 se_tupleOf se_bytesOf se_accLast se_accIdx se_accLen se_key
    ses_nil ses_cons sc_one sc_cons st_e st_cmp st_isNone st_notNone st_not st_and st_or st_acc sts_nil sts_cons sit_range1 sit_range2 sit_sorted sit_over e
end Mini
end
noncomputable section
namespace Mini
open PySem PySem.W PySem.Calls PyProof.Rows
structure Fn (Y : Sys) extends Blk Y where
  c₀ : Cf
  outer : List Env
  el : l = env :: outer
  inj : ∀ x y i, sc.own x = some i → sc.own y = some i → x = y
  ow : ∀ x i, sc.slot x = some i → sc.own x = some i
  cinj : ∀ x y a, env.cells.lookup x = some a → env.cells.lookup y = some a → x = y
  fr : env.frame = some env.locals
  outF : FramesOk c₀ outer
structure StS {Y : Sys} (X : Fn Y) (R : MU) (loc : Loc) (c : Cf) : Prop where
  K : c.Ok Y
  base : StB X.c₀ c
  ext : ∀ a x, X.c₀.Mu a = some x → R a = some x
  keep : ∀ a x, R a = some x → ∃ y, c.Mu a = some y ∧ (x.isSt = false → y = x)
  ownR : R X.env.locals = none
  own : ∃ m, c.Mu X.env.locals = some (.fr m)
  cel : ∀ z, X.sc.names.lookup z = some .cell → ∃ a v, X.env.cells.lookup z = some a ∧ c.Mu a = some (.ce v) ∧ R a = none
  L : LocR Y X.env X.sc loc c
  acc : ∀ x i l a, X.sc.own x = some i → lget loc i = .acc l → Slot X.env c.Mu x (.ref a) → R a = none ∧ ∀ y j l', X.sc.own y = some j → lget loc j = .acc l' → j ≠ i → ¬ Slot X.env c.Mu y (.ref a)
theorem Slot.fun {env : Env} {Mu : MU} {x : Str} {r r' : Value} : Slot env Mu x r → Slot env Mu x r' → r = r'
  | .inl ⟨_, _, e, q⟩, .inl ⟨_, _, e', q'⟩ => by cases e.symm.trans e'; exact Option.some.inj (q.symm.trans q')
  | .inl ⟨k, _⟩, .inr ⟨k', _⟩ => by rcases k' with k' | k' <;> cases k.symm.trans k'
  | .inr ⟨k', _⟩, .inl ⟨k, _⟩ => by rcases k' with k' | k' <;> cases k.symm.trans k'
  | .inr ⟨_, _, e, q⟩, .inr ⟨_, _, e', q'⟩ => by cases e.symm.trans e'; cases q.symm.trans q'; rfl
theorem own_kind {sc : SC} {x : Str} {i : Nat} (h : sc.own x = some i) : sc.names.lookup x = some .local ∨ sc.names.lookup x = some .cell := by
  unfold SC.own at h
  split at h
  · rename_i q; exact (or_of (and_l q)).imp beq_iff_eq.mp beq_iff_eq.mp
  · cases h
section
variable {Y : Sys} {X : Fn Y} {R : MU} {loc : Loc} {c c' : Cf}
theorem StS.keepN (S : StS X R loc c) {a : Addr} {x : MC} (n : x.isSt = false) (e : R a = some x) : c.Mu a = some x := let ⟨_, e', f⟩ := S.keep a x e; f n ▸ e'
theorem StS.ex (S : StS X R loc c) : Ex X.toBlk loc c := by
  refine ⟨S.L, S.K, fun e he => ?_⟩
  rw [X.el] at he
  rcases List.mem_cons.mp he with rfl | he
  · obtain ⟨m, hm⟩ := S.own
    exact ⟨(by rw [X.V.kind]; intro h; cases h), _, m, X.fr, hm⟩
  · obtain ⟨k, L, m, f, e'⟩ := X.outF e he
    exact ⟨k, L, m, f, S.keepN rfl (S.ext _ _ e')⟩
theorem StS.step (S : StS X R loc c) (s : Step c c') (k : c'.Ok Y) : StS X R loc c' := by
  refine ⟨k, S.base.trans s.toStB, S.ext, fun a x e => ?_, S.ownR, ?_, fun z hz => ?_, S.L.step s, fun x i l a hx hl hs => ?_⟩
  · obtain ⟨y, h1, h2⟩ := S.keep a x e
    obtain ⟨y', h3, h4⟩ := s.k a y h1
    exact ⟨y', h3, fun n => by have := h2 n; subst this; exact h4 n⟩
  · obtain ⟨m, hm⟩ := S.own; exact ⟨m, s.keep rfl hm⟩
  · obtain ⟨a, v, h1, h2, h3⟩ := S.cel z hz; exact ⟨a, v, h1, s.keep rfl h2, h3⟩
  · have back : ∀ {y j l'} {b : Addr}, X.sc.own y = some j → lget loc j = .acc l' → Slot X.env c'.Mu y (.ref b) → Slot X.env c.Mu y (.ref b) := fun hy hl hs => by
      obtain ⟨r, h1, _⟩ := S.L _ _ (own_slot hy) (fun q => nomatch hl.symm.trans q)
      exact (h1.step s).fun hs ▸ h1
    obtain ⟨h1, h2⟩ := S.acc x i l a hx hl (back hx hl hs)
    exact ⟨h1, fun y j l' hy hl' hj hs' => h2 y j l' hy hl' hj (back hy hl' hs')⟩
theorem StS.acc_at (S : StS X R loc c) {x : Str} {i : Nat} {xs : List MV} (hx : X.sc.own x = some i) (q : lget loc i = .acc xs) :
    ∃ a vs n, Slot X.env c.Mu x (.ref a) ∧ c.Mu a = some (.ex (listOf (vs : List Value).toArray n)) ∧ VRs Y c.Z c.φ xs vs ∧ xs.length ≤ 2000 := by
  obtain ⟨r, a, b⟩ := S.L x i (own_slot hx) (fun z => nomatch q.symm.trans z)
  rw [q] at b
  obtain ⟨ad, vs, n, rfl, e2, e3, e4⟩ := b
  exact ⟨ad, vs, n, a, e2, e3, e4⟩
structure Chg (X : Fn Y) (R : MU) (loc : Loc) (c : Cf) (ad : Addr) (x : Str) (i : Nat) (lv : LV) (v : Value) (c' : Cf) : Prop where
  own : X.sc.own x = some i
  k : c'.Ok Y
  b : StB c c'
  hR : R ad = none
  mu : ∀ a, a ≠ ad → c'.Mu a = c.Mu a
  fl : ∃ m, c'.Mu X.env.locals = some (.fr m)
  cel : ∀ z a w, X.sc.names.lookup z = some .cell → X.env.cells.lookup z = some a → c.Mu a = some (.ce w) → ∃ w', c'.Mu a = some (.ce w')
  s : ∀ z r, z ≠ x → X.sc.own z ≠ none → (Slot X.env c'.Mu z r ↔ Slot X.env c.Mu z r)
  sx : Slot X.env c'.Mu x v
  lvr : LVR Y c' v lv
  acc : ∀ y j l vs n, X.sc.own y = some j → j ≠ i → lget loc j = .acc l → Slot X.env c.Mu y (.ref ad) → c.Mu ad ≠ some (.ex (listOf vs n))
  new : ∀ l a, lv = .acc l → v = .ref a → R a = none ∧ ∀ y j l', X.sc.own y = some j → lget loc j = .acc l' → j ≠ i → ¬ Slot X.env c.Mu y (.ref a)
theorem StS.chg (S : StS X R loc c) {ad : Addr} {x : Str} {i : Nat} {lv : LV} {v : Value} (C : Chg X R loc c ad x i lv v c') : StS X R (loc.set i lv) c' := by
  have ne : ∀ {y j}, X.sc.own y = some j → j ≠ i → y ≠ x := fun hy hj q => hj (by subst q; exact Option.some.inj (hy.symm.trans C.own))
  have nn : ∀ {y j}, X.sc.own y = some j → X.sc.own y ≠ none := fun hy q => nomatch hy.symm.trans q
  have is : ∀ {l}, lget (loc.set i lv) i = .acc l → lv = .acc l := fun hl => by
    rcases lget_set loc i lv with e | e
    · exact e.symm.trans hl
    · cases e.symm.trans hl
  refine ⟨C.k, S.base.trans C.b, S.ext, fun a y e => ?_, S.ownR, C.fl, fun z hz => ?_, fun z j hz hu => ?_, fun y j l a hy hl hsl => ?_⟩
  · rw [C.mu a (ne_none C.hR e)]; exact S.keep a y e
  · obtain ⟨a, w, h1, h2, h3⟩ := S.cel z hz
    obtain ⟨w', h4⟩ := C.cel z a w hz h1 h2
    exact ⟨a, w', h1, h4, h3⟩
  · have hz := X.ow _ _ hz
    by_cases hj : j = i
    · subst hj
      cases X.inj z x j hz C.own
      rcases lget_set loc j lv with e | e
      · exact ⟨v, C.sx, e.symm ▸ C.lvr⟩
      · exact absurd e hu
    · rw [lget_set_ne loc lv hj] at hu ⊢
      obtain ⟨r, h1, h2⟩ := S.L z j (own_slot hz) hu
      refine ⟨r, (C.s z r (ne hz hj) (nn hz)).mpr h1, ?_⟩
      cases ql : lget loc j with
      | un => trivial
      | val w => rw [ql] at h2; exact VR.mono C.b.z C.b.p w h2
      | acc l =>
        rw [ql] at h2
        obtain ⟨a, vs, n, rfl, e2, e3, e4⟩ := h2
        exact ⟨a, vs, n, rfl, (C.mu a fun q => C.acc z j l vs.toArray n hz hj ql (q ▸ h1) (q ▸ e2)).trans e2, VRs.mono C.b.z C.b.p _ e3, e4⟩
  · by_cases hj : j = i
    · subst hj
      cases X.inj y x j hy C.own
      obtain ⟨h1, h2⟩ := C.new l a (is hl) (C.sx.fun hsl)
      refine ⟨h1, fun y' j' l' hy' hl' hj' hs' => ?_⟩
      rw [lget_set_ne loc lv hj'] at hl'
      exact h2 y' j' l' hy' hl' hj' ((C.s y' _ (ne hy' hj') (nn hy')).mp hs')
    · rw [lget_set_ne loc lv hj] at hl
      have hso := (C.s y _ (ne hy hj) (nn hy)).mp hsl
      obtain ⟨h1, h2⟩ := S.acc y j l a hy hl hso
      refine ⟨h1, fun y' j' l' hy' hl' hj' hs' => ?_⟩
      by_cases hji : j' = i
      · subst hji
        cases X.inj y' x j' hy' C.own
        exact (C.new l' a (is hl') (C.sx.fun hs')).2 y j l hy hl hj hso
      · rw [lget_set_ne loc lv hji] at hl'
        exact h2 y' j' l' hy' hl' hj' ((C.s y' _ (ne hy' hji) (nn hy')).mp hs')
noncomputable def NewOk (X : Fn Y) (R : MU) (loc : Loc) (c : Cf) (i : Nat) (lv : LV) (v : Value) : Prop := ∀ l a, lv = .acc l → v = .ref a → R a = none ∧ ∀ y j l', X.sc.own y = some j → lget loc j = .acc l' → j ≠ i → ¬ Slot X.env c.Mu y (.ref a)
theorem newOk_val {m : MV} {i : Nat} {v : Value} : NewOk X R loc c i (.val m) v := fun _ _ h => nomatch h
theorem LVR.setM {v : Value} {ad : Addr} {y : Option MC} {h : Heap} {tk : Nat} (n : ∀ vs n, c.Mu ad ≠ some (.ex (listOf vs n))) : ∀ {lv : LV}, LVR Y c v lv → LVR Y (c.setM ad y h tk) v lv
  | .un, _ => trivial
  | .val _, h => h
  | .acc _, ⟨a, vs, n', e, q, r⟩ => ⟨a, vs, n', e, (upd_ne fun z => n _ _ (z ▸ q)).trans q, r⟩
theorem wp_store (S : StS X R loc c) {A' : Around} {x : Str} {i : Nat} {v : Value} {lv : LV} {E : Value → Shared → Prop} {Q : Unit → Shared → Prop} (hx : X.sc.own x = some i) (hlv : LVR Y c v lv) (hn : NewOk X R loc c i lv v)
    (h : ∀ c', StS X R (loc.set i lv) c' → StB c c' → c'.H = c.H → (∀ b m, c.Mu b = some (.fr m) → ∃ m', c'.Mu b = some (.fr m')) → Q () c'.s) : wpAny Y.M A' (storeName X.env x v) Q E c.s := by
  obtain ⟨m, hm⟩ := S.own
  rcases own_kind hx with kd | kd
  · have kd' : X.env.kindOf x = some .local := (X.V.k x).trans kd
    refine wpAny_storeName_local kd' (S.K.ns hm) (fun h' hns hsb => ?_) (by rw [X.V.kind]; rfl)
    have nl : ∀ vs n, c.Mu X.env.locals ≠ some (.ex (listOf vs n)) := fun vs n q => nomatch hm.symm.trans q
    have k' := S.K.setM (x := some (.fr (fun y => if y = x then some v else m y))) (c.s.toks + 1) (S.K.un hm rfl) (fun b o n e => (hsb.2 b n).trans e) fun y hy => Option.some.inj hy ▸ at_fr hns
    refine h (c.setM X.env.locals (some (.fr (fun y => if y = x then some v else m y))) h' (c.s.toks + 1)) (S.chg ⟨hx, k', ⟨ZLe.refl, PLe.refl, rfl⟩, S.ownR, fun a ha => Cf.setM_ne ha, ⟨_, Cf.setM_m ..⟩,
      fun z a w _ _ e2 => ⟨w, (Cf.setM_ne (fun q => nomatch (q ▸ e2).symm.trans hm)).trans e2⟩, fun z r hz _ => ⟨?_, ?_⟩, .inl ⟨kd', _, Cf.setM_m .., if_pos rfl⟩, hlv.setM nl, fun _ _ _ vs n _ _ _ _ => nl vs n, hn⟩) ⟨ZLe.refl, PLe.refl, rfl⟩ rfl fun b m' hb => ?_
    · rintro (⟨k, m', e, q⟩ | ⟨k, a, e, q⟩)
      · cases (Cf.setM_m ..).symm.trans e; exact .inl ⟨k, m, hm, (if_neg hz).symm.trans q⟩
      · exact (upd_cases q).elim (fun q => nomatch q.2) fun q => .inr ⟨k, a, e, q.2⟩
    · rintro (⟨k, m', e, q⟩ | ⟨k, a, e, q⟩)
      · cases hm.symm.trans e; exact .inl ⟨k, _, Cf.setM_m .., (if_neg hz).trans q⟩
      · exact .inr ⟨k, a, e, (Cf.setM_ne (fun z => nomatch (z ▸ q).symm.trans hm)).trans q⟩
    · by_cases hbl : b = X.env.locals
      · subst hbl; exact ⟨_, Cf.setM_m ..⟩
      · exact ⟨m', (Cf.setM_ne hbl).trans hb⟩
  · have kd' : X.env.kindOf x = some .cell := (X.V.k x).trans kd
    obtain ⟨ad, v₀, e1, e2, e3⟩ := S.cel x kd
    refine wpAny_storeName_cell X.V.kind kd' e1 (S.K.inv.m _ _ e2) fun h' hc hsb => ?_
    have nl : ∀ vs n, c.Mu ad ≠ some (.ex (listOf vs n)) := fun vs n q => nomatch e2.symm.trans q
    have k' := S.K.setM (x := some (.ce (some v))) (h := h') c.s.toks (S.K.un e2 rfl) (fun b o n e => (hsb.2 b n).trans e) fun y hy => Option.some.inj hy ▸ hc
    have hne : ∀ {b m}, c.Mu b = some (.fr m) → b ≠ ad := fun e q => nomatch (q ▸ e).symm.trans e2
    refine h (c.setM ad (some (.ce (some v))) h' c.s.toks) (S.chg ⟨hx, k', ⟨ZLe.refl, PLe.refl, rfl⟩, e3, fun a ha => Cf.setM_ne ha, ⟨m, (Cf.setM_ne (hne hm)).trans hm⟩, fun z a w hz e4 e5 => ?_, fun z r hz _ => ⟨?_, ?_⟩,
      .inr ⟨.inl kd', ad, e1, Cf.setM_m ..⟩, hlv.setM nl, fun _ _ _ vs n _ _ _ _ => nl vs n, hn⟩) ⟨ZLe.refl, PLe.refl, rfl⟩ rfl fun b m' hb => ⟨m', (Cf.setM_ne (hne hb)).trans hb⟩
    · by_cases ha : a = ad
      · subst ha; exact ⟨_, Cf.setM_m ..⟩
      · exact ⟨w, (Cf.setM_ne ha).trans e5⟩
    · rintro (⟨k, m', e, q⟩ | ⟨k, a, e, q⟩)
      · exact (upd_cases e).elim (fun q => nomatch q.2) fun e => .inl ⟨k, m', e.2, q⟩
      · have ha : a ≠ ad := fun y => hz (X.cinj z x ad (y ▸ e) e1)
        exact .inr ⟨k, a, e, (Cf.setM_ne ha).symm.trans q⟩
    · rintro (⟨k, m', e, q⟩ | ⟨k, a, e, q⟩)
      · exact .inl ⟨k, m', (Cf.setM_ne (hne e)).trans e, q⟩
      · have ha : a ≠ ad := fun y => hz (X.cinj z x ad (y ▸ e) e1)
        exact .inr ⟨k, a, e, (Cf.setM_ne ha).trans q⟩
end
end Mini
end
noncomputable section
namespace Mini
open PySem PySem.W PySem.Calls PyProof.Rows
structure PtS where
  p : Pos
  a : Expr := default
  b : Expr := default
  x : List Stmt := []
  y : List Stmt := []
  hs : List ExceptHandler := []
  n : Nat := 0
noncomputable def partsS (s : Stmt) : PtS := match s with
  | .Return v p => { p, a := v.getD default, n := if v.isNone then 1 else 0 }
  | .Assign ts v p => { p, a := hd1 ts, b := v }
  | .AugAssign t _ v p => { p, a := t, b := v }
  | .For t i x _ p => { p, a := t, b := i, x }
  | .While t x _ p => { p, a := t, x }
  | .If t x y p => { p, a := t, x, y }
  | .Raise v _ p => { p, a := v.getD default }
  | .Try x hs _ _ p => { p, x, hs }
  | .Expr v p => { p, a := v }
  | .Break p => { p }
  | _ => { p := default }
noncomputable def isStrC (e : Expr) : Bool := match e with | .Constant (.str _) _ _ => true | _ => false
noncomputable def hType (h : ExceptHandler) : Expr := match h with | .ExceptHandler t _ _ _ => t.getD default
noncomputable def hBody (h : ExceptHandler) : List Stmt := match h with | .ExceptHandler _ _ b _ => b
noncomputable def hPos (h : ExceptHandler) : Pos := match h with | .ExceptHandler _ _ _ p => p
noncomputable def exN (cs : List Nat) (t : Expr) : Expr := match cs with
  | [_] => asName t
  | _ => .Tuple [asName (hd1 (parts t).xs), asName (hd2 (parts t).xs)] (parts t).n (parts t).p
noncomputable def exHE : HE → Expr → Expr
  | .none, e => noneAs e
  | .tt, e => .Constant (.bool true) (parts e).n (parts e).p
  | .ff, e => .Constant (.bool false) (parts e).n (parts e).p
  | .int i, e => .Constant (.int i) (parts e).n (parts e).p
  | .neg i, e => .UnaryOp .USub (.Constant (.int i) (parts (parts e).a).n (parts (parts e).a).p) (parts e).p
  | .var _, e => asName e
  | .notv _, e => .UnaryOp .Not (asName (parts e).a) (parts e).p
  | .pair a b, e => .Tuple [exHE a (hd1 (parts e).xs), exHE b (hd2 (parts e).xs)] (parts e).n (parts e).p
noncomputable def okHE (sc : SC) : HE → Expr → Bool
  | .none, _ => true
  | .tt, _ => true
  | .ff, _ => true
  | .int _, _ => true
  | .neg _, _ => true
  | .var i, e => sc.slot (parts e).s == some i
  | .notv i, e => sc.slot (parts (parts e).a).s == some i
  | .pair a b, e => (okHE sc a (hd1 (parts e).xs) && noStar (exHE a (hd1 (parts e).xs))) && (okHE sc b (hd2 (parts e).xs) && noStar (exHE b (hd2 (parts e).xs)))
noncomputable def exHS : HS → Stmt → Stmt
  | .bad, s => s
  | .assign _ e, s => .Assign [asName (partsS s).a] (exHE e (partsS s).b) (partsS s).p
  | .ret e, s => .Return (some (exHE e (partsS s).a)) (partsS s).p
  | .brk, s => .Break (partsS s).p
noncomputable def okHS (sc : SC) : HS → Stmt → Bool
  | .bad, _ => true
  | .assign i e, s => sc.own (parts (partsS s).a).s == some i && (okHE sc e (partsS s).b && noComp (exHE e (partsS s).b))
  | .ret e, s => okHE sc e (partsS s).a
  | .brk, _ => true
noncomputable def exH : List HS → List Stmt → List Stmt
  | [], _ => []
  | h :: r, xs => exHS h (xs.headD default) :: exH r xs.tail
noncomputable def okH (sc : SC) : List HS → List Stmt → Bool
  | [], _ => true
  | h :: r, xs => okHS sc h (xs.headD default) && okH sc r xs.tail
section
variable (T : Tie)
noncomputable def okN (sc : SC) (cs : List Nat) (t : Expr) : Bool := match cs with
  | [c] => gOk T sc (parts t).s (.exc c)
  | [c, d] => gOk T sc (parts (hd1 (parts t).xs)).s (.exc c) && gOk T sc (parts (hd2 (parts t).xs)).s (.exc d)
  | _ => false
noncomputable def exF : List Expr → MEs → List Expr
  | [], _ => []
  | v :: r, es => if isStrC v then .Constant (.str (parts v).s) (parts v).n (parts v).p :: exF r es else match es with
    | .nil => []
    | .cons e es => .FormattedValue (ex T e (parts v).a) (-1) none (parts v).p :: exF r es
noncomputable def okF (sc : SC) : List Expr → MEs → Bool
  | [], es => es.isNil
  | v :: r, es => if isStrC v then decide ((parts v).s.length ≤ 1000) && okF sc r es else match es with
    | .nil => false
    | .cons e es => ok T sc e (parts v).a && okF sc r es
noncomputable def MS.isFreeze (s : MS) : Bool := match s with | .freeze _ => true | _ => false
noncomputable def ME.isComp (e : ME) : Bool := match e with | .comp .. => true | .compIf .. => true | _ => false
noncomputable def dictKs (e : Expr) : List (Option Expr) := match e with | .Dict ks _ _ => ks | _ => []
noncomputable def strKey (f : Nat) (e : Expr) : Expr := .Constant (.str (nameOf T f)) (parts e).n (parts e).p
noncomputable def exK : List Nat → List (Option Expr) → List (Option Expr)
  | [], _ => []
  | k :: ks, xs => some (strKey T k ((xs.headD none).getD default)) :: exK ks xs.tail
mutual
noncomputable def exS : MS → Stmt → Stmt
  | .bad, s => s
  | .assign _ e, s => .Assign [asName (partsS s).a] (ex T e (partsS s).b) (partsS s).p
  | .unpack _ e, s => .Assign [.Tuple ((parts (partsS s).a).xs.map asName) (parts (partsS s).a).n (parts (partsS s).a).p] (ex T e (partsS s).b) (partsS s).p
  | .setAttr e f v, s => .Assign [.Attribute (ex T e (parts (partsS s).a).a) (nameOf T f) (parts (partsS s).a).p] (ex T v (partsS s).b) (partsS s).p
  | .aug _ o e, s => .AugAssign (asName (partsS s).a) (realOp o) (ex T e (partsS s).b) (partsS s).p
  | .accNew _ es, s => .Assign [asName (partsS s).a] (.List (exs T es (parts (partsS s).b).xs) (parts (partsS s).b).p) (partsS s).p
  | .accCopy _ e, s => .Assign [asName (partsS s).a] (.Subscript (ex T e (parts (partsS s).b).a) (.Slice none none none (parts (parts (partsS s).b).b).p) (parts (partsS s).b).p) (partsS s).p
  | .accApp _ e, s => .Expr (.Call (.Attribute (asName (parts (partsS s).a).a) "append" (parts (partsS s).a).q) [ex T e (hd1 (parts (partsS s).a).xs)] [] (parts (partsS s).a).p) (partsS s).p
  | .freeze _, s => s
  | .expr e, s => .Expr (ex T e (partsS s).a) (partsS s).p
  | .ife t a b, s => .If (exT T t (partsS s).a) (exSs a (partsS s).x) (exSs b (partsS s).y) (partsS s).p
  | .whil _ t b, s => .While (exT T t (partsS s).a) (exSs b (partsS s).x) [] (partsS s).p
  | .forr _ it b, s => .For (asName (partsS s).a) (exI T it (partsS s).b) (exSs b (partsS s).x) [] (partsS s).p
  | .ret e, s => .Return (if (partsS s).n = 1 then none else some (ex T e (partsS s).a)) (partsS s).p
  | .brk, s => .Break (partsS s).p
  | .raise _ es, s => .Raise (some (exCall (parts (partsS s).a) [.JoinedStr (exF T (parts (hd1 (parts (partsS s).a).xs)).xs es) (parts (hd1 (parts (partsS s).a).xs)).p])) none (partsS s).p
  | .tryy b hs, s => .Try (exSs b (partsS s).x) (exHs hs (partsS s).hs) [] [] (partsS s).p
  | .setKey e f v, s => .Assign [.Subscript (ex T e (parts (partsS s).a).a) (strKey T f (parts (partsS s).a).b) (parts (partsS s).a).p] (ex T v (partsS s).b) (partsS s).p
  | .dictNew _ ks es, s => .Assign [asName (partsS s).a] (.Dict (exK T ks (dictKs (partsS s).b)) (exs T es (parts (partsS s).b).xs) (parts (partsS s).b).p) (partsS s).p
noncomputable def exSs : MSs → List Stmt → List Stmt
  | .nil, _ => []
  | .cons s r, xs => if s.isFreeze then exSs r xs else exS s (xs.headD default) :: exSs r xs.tail
noncomputable def exHs : MHs → List ExceptHandler → List ExceptHandler
  | .nil, _ => []
  | .cons cs b r, hs => .ExceptHandler (some (exN cs (hType (hs.headD default)))) none (exH b (hBody (hs.headD default))) (hPos (hs.headD default)) :: exHs r hs.tail
end
noncomputable def okComp (sc : SC) (s : PtS) : Bool := sc.isLocal (parts s.a).s && ((parts s.a).p.line == (parts s.b).p.line && (!((parts s.b).sc.names.any fun p => p.1 == (parts s.a).s && (p.2 == .local || p.2 == .cell)) && s.p.line == (parts s.b).p.line))
noncomputable def targetsOk (sc : SC) : List Nat → List Expr → Bool
  | [], xs => xs.isEmpty
  | i :: is, xs => !xs.isEmpty && (sc.own (parts (hd1 xs)).s == some i && targetsOk sc is xs.tail)
noncomputable def isRet0 (e : ME) : Bool := match e with | .none => true | _ => false
mutual
noncomputable def okS (sc : SC) : MS → Stmt → Bool
  | .bad, _ => true
  | .assign i e, s => sc.own (parts (partsS s).a).s == some i && (ok T sc e (partsS s).b && (if e.isComp then okComp sc (partsS s) else noComp (ex T e (partsS s).b)))
  | .unpack is e, s => targetsOk sc is (parts (partsS s).a).xs && (ok T sc e (partsS s).b && ((isCallE (ex T e (partsS s).b) || isSubE (ex T e (partsS s).b)) && (decide is.Nodup && decide (2 ≤ is.length))))
  | .setAttr e _ v, s => ok T sc v (partsS s).b && (ok T sc e (parts (partsS s).a).a && noComp (ex T v (partsS s).b))
  | .aug i o e, s => sc.own (parts (partsS s).a).s == some i && (ok T sc e (partsS s).b && (match o with | .add => true | .sub => true | _ => false))
  | .accNew i es, s => okAcc sc (partsS s).a i && (oks T sc es (parts (partsS s).b).xs && decide ((exs T es (parts (partsS s).b).xs).length ≤ 1000))
  | .accCopy i e, s => okAcc sc (partsS s).a i && ok T sc e (parts (partsS s).b).a
  | .accApp i e, s => okAcc sc (parts (partsS s).a).a i && (((parts (partsS s).a).q.endLine == (parts (partsS s).a).p.line) && (ok T sc e (hd1 (parts (partsS s).a).xs) && noStar (ex T e (hd1 (parts (partsS s).a).xs))))
  | .freeze _, _ => true
  | .expr e, s => ok T sc e (partsS s).a && isCallE (ex T e (partsS s).a)
  | .ife t a b, s => okT T sc t (partsS s).a && (okSs sc a (partsS s).x && okSs sc b (partsS s).y)
  | .whil _ t b, s => okT T sc t (partsS s).a && okSs sc b (partsS s).x
  | .forr i it b, s => okAcc sc (partsS s).a i && (okI T sc it (partsS s).b && okSs sc b (partsS s).x)
  | .ret e, s => if (partsS s).n = 1 then isRet0 e else ok T sc e (partsS s).a
  | .brk, _ => true
  | .raise c es, s => okG T sc (partsS s).a (.exc c) && (okF T sc (parts (hd1 (parts (partsS s).a).xs)).xs es && (decide (2 ≤ (parts (hd1 (parts (partsS s).a).xs)).xs.length) && decide ((parts (hd1 (parts (partsS s).a).xs)).xs.length ≤ 20)))
  | .tryy b hs, s => okSs sc b (partsS s).x && (okHs sc hs (partsS s).hs && !(match hs with | .nil => true | .cons .. => false))
  | .setKey e _ v, s => ok T sc v (partsS s).b && (ok T sc e (parts (partsS s).a).a && noComp (ex T v (partsS s).b))
  | .dictNew i ks es, s => sc.own (parts (partsS s).a).s == some i && (oks T sc es (parts (partsS s).b).xs && (ks.all (fun k => decide (k < T.names.length)) && (decide (1 ≤ ks.length ∧ ks.length ≤ 15) && decide ((exs T es (parts (partsS s).b).xs).length = ks.length))))
noncomputable def okSs (sc : SC) : MSs → List Stmt → Bool
  | .nil, _ => true
  | .cons s r, xs => if s.isFreeze then (match s with | .freeze i => sc.vars.any (fun p => p.2 == i && sc.own p.1 == some i) | _ => true) && okSs sc r xs else okS sc s (xs.headD default) && okSs sc r xs.tail
noncomputable def okHs (sc : SC) : MHs → List ExceptHandler → Bool
  | .nil, _ => true
  | .cons cs b r, hs => okN T sc cs (hType (hs.headD default)) && (okH sc b (hBody (hs.headD default)) && (!b.isEmpty && okHs sc r hs.tail))
end
end
end Mini
end
noncomputable section
namespace Mini
open PySem PySem.W PySem.Calls PyProof.Rows
section
variable {Y : Sys} (X : Fn Y)
noncomputable def OutX (k : Nat) (H : MH) (e : Value) (s : Shared) : Prop := ∃ c' a C B a0, c'.s = s ∧ c'.Ok Y ∧ Step X.c₀ c' ∧ c'.H = H ∧ Flown Y c' X.outer e k a C B a0
noncomputable def Leaves (k : Nat) (H : MH) (e : Value) (s : Shared) : Prop := wpAny Y.M X.A (leaving X.env e) (fun _ s' => OutX X k H e s') (fun _ _ => False) s
structure GoS (R : MU) (r : SR) (c : Cf) (Q : Flow → Shared → Prop) (E : Value → Shared → Prop) : Prop where
  nb : r ≠ .bad
  next : ∀ c' loc, StS X R loc c' → StB c c' → r = .next loc c'.H → Q .next c'.s
  brk : ∀ c' loc, StS X R loc c' → StB c c' → r = .brk loc c'.H → Q .brk c'.s
  ret : ∀ c' v m, c'.Ok Y → Step X.c₀ c' → r = .ret m c'.H → VR Y c'.Z c'.φ m v → Q (.ret v) c'.s
  exm : ∀ k l H e s, r = .exm k l H → Leaves X k H e s → E e s
  exf : ∀ c' loc k e a C B a0, StS X R loc c' → StB c c' → r = .exf k loc c'.H → Flown Y c' X.l e k a C B a0 → E e c'.s
noncomputable def WS (R : MU) (t : Sem Flow) (r : SR) (c : Cf) : Prop := ∀ Q E, GoS X R r c Q E → wpAny Y.M X.A t Q E c.s
end
section
variable {Y : Sys} {X : Fn Y} {R : MU} {loc : Loc} {c c' : Cf} {r r' : SR} {Q : Flow → Shared → Prop} {E : Value → Shared → Prop}
theorem GoS.at (g : GoS X R r c Q E) (b : StB c c') (q : r = r') : GoS X R r' c' Q E :=
  ⟨q ▸ g.nb, fun c' l S b' e => g.next c' l S (b.trans b') (q.trans e), fun c' l S b' e => g.brk c' l S (b.trans b') (q.trans e), fun c' v m k s e => g.ret c' v m k s (q.trans e),
    fun k l H e s q' => g.exm k l H e s (q.trans q'), fun c' l k e a C B a0 S b' e' => g.exf c' l k e a C B a0 S (b.trans b') (q.trans e')⟩
theorem seqE {α β : Type} (S : StS X R loc c) {m : Sem α} {Rel : Cf → α → β → Prop} {rr : RS β} {f : β → MH → SR} {Q' : α → Shared → Prop} (h : Wk Y X.A X.l m Rel rr c) (g : GoS X R (toS rr loc f) c Q E)
    (k : ∀ c' v b, StS X R loc c' → Step c c' → Rel c' v b → GoS X R (f b c'.H) c' Q E → Q' v c'.s) : wpAny Y.M X.A m Q' E c.s :=
  h Q' E ⟨fun e => g.nb (e ▸ rfl), fun c' v b o s e q => k c' v b (S.step s o) s q (g.at s.toStB (e ▸ rfl)), fun c' k' e' a C B a0 o s e fl => g.exf c' loc k' e' a C B a0 (S.step s o) s.toStB (e ▸ rfl) fl⟩
theorem GoS.opt {ω : Type} {o : Option ω} {f : ω → SR} (g : GoS X R (optS o f) c Q E) : ∃ a, o = some a ∧ GoS X R (f a) c Q E := match o, g with
  | some a, g => ⟨a, rfl, g⟩
  | none, g => absurd rfl g.nb
theorem GoS.here {l : Loc} (g : GoS X R (.next l c.H) c Q E) (S : StS X R l c) : Q .next c.s := g.next c l S (StB.refl c) rfl
theorem Cf.Ok.flew {B h' : Heap} (k : c.Ok Y) (hb : Holds B c) (hB : B.StaysIn h') (us : c.s.heap.UpToSlots h') : (c.heap h' c.s.toks).Ok Y := by
  refine ⟨⟨fun a o e => hB _ _ (hb.z a o e), fun a x e => ?_, k.inv.d⟩, k.hr, k.base⟩
  by_cases q : ∃ m, x = .fr m
  · obtain ⟨m, rfl⟩ := q; exact at_fr (us.ns (k.ns e))
  · exact MC.at_to (hB a) (hb.m a x e fun m hm => q ⟨m, hm⟩)
theorem funFrames_of {as : List Addr} (k : c.Ok Y) : ∀ {l : List Env}, FramesOk c l → (∀ env ∈ l, ∀ a, env.frame = some a → a ∈ as) → c.s.heap.FunFrames (hideAll c.s.heap as) l
  | [], _, _ => trivial
  | env :: r, h, hin => by
    obtain ⟨h1, L, m, h2, h3⟩ := h env (.head _)
    obtain ⟨o, es, ep, ho, hd, _⟩ := k.ns h3
    exact ⟨h1, ⟨L, o, h2, hideAll_none _ (hin env (.head _) L h2), ho, fun vs q => nomatch hd.symm.trans q⟩, funFrames_of k (fun e he => h e (.tail _ he)) fun e he => hin e (.tail _ he)⟩
theorem holds_hide {l : List Env} (k : c.Ok Y) (h : FramesOk c l) : Holds (hideAll c.s.heap (l.filterMap (·.frame))) c := by
  have hn : ∀ a, a ∈ l.filterMap (·.frame) → ∃ m, c.Mu a = some (.fr m) := fun a ha => by
    obtain ⟨env, he, hf⟩ := List.mem_filterMap.mp ha
    obtain ⟨_, L, m, h2, h3⟩ := h env he
    cases h2.symm.trans hf; exact ⟨m, h3⟩
  refine ⟨fun a o e => hideAll_get _ (k.inv.z a o e) fun ha => ?_, fun a x e hx => MC.at_to (fun o q => hideAll_get _ q fun ha => ?_) (k.inv.m a x e)⟩
  · obtain ⟨m, hm⟩ := hn a ha
    exact nomatch (k.inv.d _ _ hm).symm.trans e
  · obtain ⟨m, hm⟩ := hn a ha
    exact hx m (Option.some.inj (e.symm.trans hm))
theorem StS.out (S : StS X R loc c) (s : Step c c') : Step X.c₀ c' :=
  ⟨S.base.trans s.toStB, fun a x e => by
    obtain ⟨y, h1, h2⟩ := S.keep a x (S.ext a x e)
    obtain ⟨y', h3, h4⟩ := s.k a y h1
    exact ⟨y', h3, fun n => by have := h2 n; subst this; exact h4 n⟩⟩
theorem leaves_made (S : StS X R loc c) {k : Nat} {C e : Addr} {h₁ : Heap} {args : List Value} (hC : Y.T.eadr[k]? = some C) (hx : Heap.MadeExcOf c.s.heap h₁ e (.ref C) args) :
    Leaves X k c.H (.ref e) { c.s with heap := h₁ } := by
  have FO := S.ex.F
  refine wpAny_leaves_madeW (base := hideAll c.s.heap (X.l.filterMap (·.frame))) (X.at_.fr.trans (congrArg some X.el)) X.fr (fun b o q => of_hideAll _ q) (X.el ▸ funFrames_of S.K FO fun e he b hb => List.mem_filterMap.mpr ⟨e, he, hb⟩) hx fun h' t x1 x2 x3 x4 => ?_
  have hb := holds_hide S.K FO
  exact ⟨c.heap h' c.s.toks, e, C, _, _, rfl, S.K.flew hb x1.1 ((Heap.UpToSlots.of_keeps hx.keeps).trans x4), S.out (Step.heap c h' _), rfl, rfl, hC, x1, hb.z, hb.m⟩
theorem ne_mu {f : MU} {a b : Addr} {x y : MC} (h : f a = some x) (e : f b = some y) (n : x ≠ y) : b ≠ a := fun q => n (Option.some.inj (h.symm.trans (q ▸ e)))
theorem slot_keep {env : Env} {Mu Mu' : MU} {a : Addr} (hne : ∀ b, b ≠ a → Mu' b = Mu b) (h1 : ∀ m, Mu a ≠ some (.fr m)) (h2 : ∀ v, Mu a ≠ some (.ce v)) (h3 : ∀ m, Mu' a ≠ some (.fr m)) (h4 : ∀ v, Mu' a ≠ some (.ce v)) (z : Str) (r : Value) : Slot env Mu' z r ↔ Slot env Mu z r := by
  constructor
  · rintro (⟨k, m', e, q⟩ | ⟨k, b, e, q⟩)
    · exact .inl ⟨k, m', (hne _ fun y => h3 m' (y ▸ e)).symm.trans e, q⟩
    · exact .inr ⟨k, b, e, (hne _ fun y => h4 _ (y ▸ q)).symm.trans q⟩
  · rintro (⟨k, m', e, q⟩ | ⟨k, b, e, q⟩)
    · exact .inl ⟨k, m', (hne _ fun y => h1 m' (y ▸ e)).trans e, q⟩
    · exact .inr ⟨k, b, e, (hne _ fun y => h2 _ (y ▸ q)).trans q⟩
theorem StS.at_cel (S : StS X R loc c) {z : Str} {a : Addr} {w : Option Value} (hz : X.sc.names.lookup z = some .cell) (e : X.env.cells.lookup z = some a) : ∃ w, c.Mu a = some (.ce w) := by
  obtain ⟨a', w, e', h, _⟩ := S.cel z hz
  cases e.symm.trans e'; exact ⟨w, h⟩
theorem StS.changed (S : StS X R loc c) {x : Str} {i : Nat} {xs : List MV} {a : Addr} {vs : Array Value} {n : Nat} {lv : LV} (hx : X.sc.own x = some i) (q : lget loc i = .acc xs) (hs : Slot X.env c.Mu x (.ref a)) (hm : c.Mu a = some (.ex (listOf vs n)))
    (k : c'.Ok Y) (b : StB c c') (hne : ∀ b, b ≠ a → c'.Mu b = c.Mu b) (h3 : ∀ m, c'.Mu a ≠ some (.fr m)) (h4 : ∀ v, c'.Mu a ≠ some (.ce v)) (hlv : LVR Y c' (.ref a) lv) : StS X R (loc.set i lv) c' := by
  obtain ⟨hR, hap⟩ := S.acc x i xs a hx q hs
  have sk := slot_keep (env := X.env) hne (fun m e => nomatch hm.symm.trans e) (fun m e => nomatch hm.symm.trans e) h3 h4
  refine S.chg ⟨hx, k, b, hR, hne, ?_, fun z a' w hz e1 e2 => ⟨w, (hne _ (ne_mu hm e2 fun q => nomatch q)).trans e2⟩, fun z r _ _ => sk z r, (sk x _).mpr hs, hlv, fun y j l vs n hy hj hl hs' _ => hap y j l hy hl hj hs', fun l a' h1 h2 => ?_⟩
  · obtain ⟨m, h⟩ := S.own
    exact ⟨m, (hne _ (ne_mu hm h fun q => nomatch q)).trans h⟩
  · cases h2; exact ⟨hR, hap⟩
theorem StS.frozen (S : StS X R loc c) {x : Str} {i : Nat} {xs : List MV} (hx : X.sc.own x = some i) (q : lget loc i = .acc xs) :
    ∃ c', c'.s = c.s ∧ c'.H = c.H ∧ StB c c' ∧ StS X R (loc.set i (.val (.list xs))) c' := by
  obtain ⟨a, vs, n, hs, hm, hv, hz⟩ := S.acc_at hx q
  have u := S.K.un hm rfl
  have b : StB c (c.setZ a (listOf vs.toArray n) c.s.heap c.s.toks) := ⟨ZLe.upd u.z, PLe.refl, rfl⟩
  exact ⟨c.setZ a (listOf vs.toArray n) c.s.heap c.s.toks, rfl, rfl, b, S.changed hx q hs hm (S.K.setZ _ u (fun _ _ _ e => e) (ex_at (S.K.inv.m _ _ hm))) b (fun b hb => upd_ne hb) (fun m e => nomatch (upd_self ..).symm.trans e) (fun m e => nomatch (upd_self ..).symm.trans e)
    ⟨a, vs, n, rfl, upd_self .., VRs.mono b.z b.p _ hv, two_k hz⟩⟩
theorem StS.off (S : StS X R loc c) {ad : Addr} (k : c'.Ok Y) (b : StB c c') (hR : R ad = none) (hne : ∀ b, b ≠ ad → c'.Mu b = c.Mu b) (hl : ad ≠ X.env.locals) (hce : ∀ v, c.Mu ad ≠ some (.ce v)) (hce' : ∀ v, c'.Mu ad ≠ some (.ce v)) (hli : ∀ vs n, c.Mu ad ≠ some (.ex (listOf vs n))) : StS X R loc c' := by
  have sk : ∀ z r, Slot X.env c'.Mu z r ↔ Slot X.env c.Mu z r := fun z r => by
    constructor
    · rintro (⟨k, m', e, q⟩ | ⟨k, b, e, q⟩)
      · exact .inl ⟨k, m', (hne _ (Ne.symm hl)).symm.trans e, q⟩
      · exact .inr ⟨k, b, e, (hne _ fun y => hce' _ (y ▸ q)).symm.trans q⟩
    · rintro (⟨k, m', e, q⟩ | ⟨k, b, e, q⟩)
      · exact .inl ⟨k, m', (hne _ (Ne.symm hl)).trans e, q⟩
      · exact .inr ⟨k, b, e, (hne _ fun y => hce _ (y ▸ q)).trans q⟩
  refine ⟨k, S.base.trans b, S.ext, fun a' y e => ?_, S.ownR, ?_, fun z hz => ?_, fun z j hz hu => ?_, fun y j l a' hy hl hsl => ?_⟩
  · rw [hne _ (ne_none hR e)]; exact S.keep a' y e
  · obtain ⟨m, h⟩ := S.own; exact ⟨m, (hne _ (Ne.symm hl)).trans h⟩
  · obtain ⟨a', v, g1, g2, g3⟩ := S.cel z hz; exact ⟨a', v, g1, (hne _ fun y => hce _ (y ▸ g2)).trans g2, g3⟩
  · obtain ⟨r, g1, g2⟩ := S.L z j hz hu
    refine ⟨r, (sk _ _).mpr g1, ?_⟩
    cases ql : lget loc j with
    | un => trivial
    | val v => rw [ql] at g2; exact VR.mono b.z b.p v g2
    | acc l =>
      rw [ql] at g2
      obtain ⟨a', vs', n', rfl, e2, e3, e4⟩ := g2
      exact ⟨a', vs', n', rfl, (hne _ fun y => hli _ _ (y ▸ e2)).trans e2, VRs.mono b.z b.p _ e3, e4⟩
  · obtain ⟨g1, g2⟩ := S.acc y j l a' hy hl ((sk _ _).mp hsl)
    exact ⟨g1, fun y' j' l' hy' hl' hj' hs' => g2 y' j' l' hy' hl' hj' ((sk _ _).mp hs')⟩
theorem StS.free (S : StS X R loc c) {a : Addr} (h : c.Mu a = none) : R a = none := Option.eq_none_iff_forall_ne_some.mpr fun x e => let ⟨_, e', _⟩ := S.keep a x e; nomatch h.symm.trans e'
theorem store_acc {c₁ c₂ : Cf} (S : StS X R loc c₁) (s : Step c₁ c₂) (k : c₂.Ok Y) {x : Str} {i : Nat} {a : Addr} {vs : List Value} {n : Nat} {xs : List MV} {E : Value → Shared → Prop} {Q : Unit → Shared → Prop} (hx : X.sc.own x = some i)
    (hn : c₁.Mu a = none) (hm : c₂.Mu a = some (.ex (listOf vs.toArray n))) (hv : VRs Y c₂.Z c₂.φ xs vs) (hz : xs.length ≤ 2000)
    (h : ∀ c', StS X R (loc.set i (.acc xs)) c' → StB c₁ c' → c'.H = c₂.H → Q () c'.s) : wpAny Y.M X.A (storeName X.env x (.ref a)) Q E c₂.s := by
  refine wp_store (S.step s k) (lv := .acc xs) hx ⟨a, vs, n, rfl, hm, hv, hz⟩ (fun l b hl hb => ?_) fun c' S' b' h' _ => h c' S' (s.toStB.trans b') h'
  cases hb
  refine ⟨S.free hn, fun y j l' hy hl' _ hs => ?_⟩
  obtain ⟨a', vs', n', h1, h2, _⟩ := S.acc_at hy hl'
  cases (h1.step s).fun hs
  exact nomatch hn.symm.trans h2
end
end Mini
end
noncomputable section
namespace Mini
open PySem PySem.W PySem.Calls PyProof.Rows
noncomputable def SS (Y : Sys) (s : MS) : Prop := ∀ (X : Fn Y) (R : MU) (st : Stmt) (loc : Loc) (c : Cf), okS Y.T X.sc s st = true → StS X R loc c → WS X R (exec (exS Y.T s st) X.env) (execS Y.P X.cf s loc c.H) c
section
variable {Y : Sys}
theorem ss_bad : SS Y .bad := fun _ _ _ _ _ _ _ _ _ g => absurd rfl g.nb
theorem ss_freeze (i : Nat) : SS Y (.freeze i) → SS Y (.freeze i) := fun h => h
theorem noComp_plain {e : Expr} (h : noComp e = true) : ∀ (env : Env) (tg : Option Expr) (n : Nat), swapsWith e tg n env = pure false := by
  cases e <;> first | exact fun _ _ _ => rfl | cases h
theorem toS_compR {ri : RS (List MV)} {gg : MV → MH → RS (Option MV)} {loc : Loc} {f : MV → MH → SR} (h : toS (compR ri gg) loc f ≠ .bad) : compR ri gg ≠ .bad := fun e => h (e ▸ rfl)
theorem comp_use {X : Fn Y} {R : MU} {loc : Loc} {c : Cf} {Q : Flow → Shared → Prop} {E : Value → Shared → Prop} (S : StS X R loc c) {i : Nat} {x y : Str} {p yp pos : Pos} {xi : Nat} {elt iter : Expr} {ifs : List Expr} {scope : Scope} {ri : RS (List MV)} {gg : MV → MH → RS (Option MV)} (hx : X.sc.own x = some i)
    (CF : CompFacts X.sc scope y xi) (hit : ∀ x, foldedSetIterable iter X.env x = pure x) (hI : SI Y X.A X.l iter X.env ri c)
    (body : ∀ L cl, (∀ p ∈ scope.names, p.2 = .free → cl.lookup p.1 = X.env.cells.lookup p.1) → Turn Y X.A c (compEnv X.env scope L cl) ifs elt y gg)
    (g : GoS X R (toS (compR ri gg) loc fun v H => .next (loc.set i (.val v)) H) c Q E) :
    wpAny Y.M X.A (evalThenUse (.ListComp elt [⟨.Name y yp, iter, ifs, 0⟩] scope pos) X.env (assign (.Name x p) X.env)) (fun _ s' => Q .next s') E c.s := by
  show wpAny _ X.A (do let _ ← comprehension (.ListComp elt [⟨.Name y yp, iter, ifs, 0⟩] scope pos) scope X.env _ (newList []) false (eval iter X.env) (some (assign (.Name x p) X.env))) _ _ _
  refine wpAny_bind (wpAny_mono (comp_core (Q := fun _ s' => Q .next s') (use := some (assign (.Name x p) X.env)) X.V CF X.at_.h hit X.C hI body (toS_compR g.nb) (fun c' k e a C B a0 o s e' fl => g.exf c' loc k e a C B a0 (S.step s o) s.toStB (by unfold compR; rw [e']; rfl) fl)
    fun c' D ws m L k' t' e' v' l' hL => ?_) (fun _ _ h => wpAny_pure h) fun _ _ h => h)
  show wpAny _ X.A (assign (.Name x p) X.env (.ref D)) _ _ _
  refine wpAny_assign_Name (wp_store (S.step t' k') (lv := .val (.list ws)) hx v' newOk_val fun c₂ S₂ b₂ h₂ fk => ?_)
  obtain ⟨m', hm'⟩ := fk L m l'
  refine ⟨m', S₂.K.ns hm', fun h' hs => ?_⟩
  have k3 := S₂.K.setM (x := none) (h := h') c₂.s.toks (S₂.K.un hm' rfl) (fun b o n e => (hs.2 b n).trans e) fun _ h => nomatch h
  refine g.next (c₂.setM L none h' c₂.s.toks) _ (S₂.off k3 ⟨ZLe.refl, PLe.refl, rfl⟩ (S.free hL) (fun b hb => Cf.setM_ne hb) (let ⟨_, h⟩ := S.own; Ne.symm (ne_none hL h)) (fun v e => nomatch hm'.symm.trans e) (fun v e => nomatch (Cf.setM_m ..).symm.trans e) fun vs n e => nomatch hm'.symm.trans e) (t'.toStB.trans (b₂.trans ⟨ZLe.refl, PLe.refl, rfl⟩)) ?_
  rw [e']; exact congrArg (SR.next _) h₂.symm
theorem swaps_comp {X : Fn Y} {s : PtS} {el : Expr} {gs : List Comprehension} (h : okComp X.sc s = true) : swapsWith (.ListComp el gs (parts s.b).sc (parts s.b).p) (some (asName s.a)) s.p.line X.env = pure true := by
  have h2 := and_r h
  have h3 := and_r h2
  have hk : (X.env.kindOf (parts s.a).s == some .local) = true := by rw [X.V.k]; exact and_l h
  have hbk : (X.env.blockKind == .function) = true := by unfold Env.blockKind; rw [X.V.kind]; rfl
  show (pure (X.env.blockKind == .function && X.env.kindOf (parts s.a).s == some .local && (parts s.a).p.line == (parts s.b).p.line && !((parts s.b).sc.names.any fun (n, k) => n == (parts s.a).s && (k == .local || k == .cell))) : Sem Bool) = pure true
  rw [hbk, hk, and_l h2, and_l h3]; rfl
theorem isComp_of {me : ME} (h : me.isComp = true) : (∃ e x i, me = .comp e x i) ∨ ∃ e x i t, me = .compIf e x i t := by
  cases me <;> first | exact .inl ⟨_, _, _, rfl⟩ | exact .inr ⟨_, _, _, _, rfl⟩ | cases h
theorem ss_assign (i : Nat) (me : ME) : SS Y (.assign i me) := fun X R st loc c h S Q E g => by
  have hx : X.sc.own (parts (partsS st).a).s = some i := beq_iff_eq.mp (and_l h)
  have h2 := and_r h
  have h3 := and_r h2
  cases hc : me.isComp with
  | false =>
    rw [hc, if_neg (by decide)] at h3
    refine wpAny_Assign_Name (seqE S (soundE me X.toBlk _ loc c (and_l h2) S.ex) g fun c₁ u m S₁ s₁ r₁ g => ?_) (noComp_plain h3 _ _ _)
    exact wp_store S₁ (lv := .val m) hx r₁ newOk_val fun c₂ S₂ b₂ h₂ _ => g.next c₂ _ S₂ b₂ (by rw [h₂])
  | true =>
    rw [hc, if_pos rfl] at h3
    rcases isComp_of hc with ⟨elt, y, it, rfl⟩ | ⟨elt, y, it, t, rfl⟩
    · have h3 := h3
      have hh := and_l h2
      have F := compFacts (and_l hh)
      refine wp_of (exec_Assign_Name_used _ _ _ _ (swaps_comp h3)) (wpAny_bind (wpAny_standAt (wpAny_bind (wpAny_mono (comp_use S hx F ((soundI it).plain _ _ _ · (and_l (and_r hh))) ((soundI it).run X.toBlk _ loc c (and_l (and_r hh)) S.ex) (turn_comp (soundE elt) S.ex F (and_r (and_r hh))) g) (fun _ _ h => wpAny_pure h) fun _ _ h => h))))
    · have hh := and_l h2
      have F := compFacts (and_l hh)
      refine wp_of (exec_Assign_Name_used _ _ _ _ (swaps_comp h3)) (wpAny_bind (wpAny_standAt (wpAny_bind (wpAny_mono (comp_use S hx F ((soundI it).plain _ _ _ · (and_l (and_r hh))) ((soundI it).run X.toBlk _ loc c (and_l (and_r hh)) S.ex) (turn_compIf (soundE elt) (soundT t) S.ex F (and_l (and_r (and_r hh))) (and_r (and_r (and_r hh)))) g) (fun _ _ h => wpAny_pure h) fun _ _ h => h))))
theorem ss_expr (me : ME) : SS Y (.expr me) := fun X R st loc c h S Q E g => by
  refine wpAny_Expr_any (seqE S (soundE me X.toBlk _ loc c (and_l h) S.ex) g fun c₁ u m S₁ s₁ r₁ g => g.here S₁) (by unfold interactive; rw [X.V.kind]; rfl) (by
    have := and_r h
    revert this
    cases ex Y.T me (partsS st).a <;> first | exact fun _ => rfl | exact fun h => nomatch h)
theorem ss_brk : SS Y .brk := fun X R st loc c h S Q E g => wpAny_Break (g.brk c loc S (StB.refl c) rfl)
theorem isRet0_of {me : ME} (h : isRet0 me = true) : me = .none := by cases me <;> first | rfl | cases h
theorem ss_ret (me : ME) : SS Y (.ret me) := fun X R st loc c h S Q E g => by
  by_cases hn : (partsS st).n = 1
  · have h' : (if (partsS st).n = 1 then isRet0 me else ok Y.T X.sc me (partsS st).a) = true := h
    rw [if_pos hn] at h'
    show wpAny _ _ (exec (.Return (if (partsS st).n = 1 then none else some (ex Y.T me (partsS st).a)) (partsS st).p) X.env) _ _ _
    rw [if_pos hn]
    cases isRet0_of h'
    exact wpAny_Return_none (g.ret c _ _ S.K (S.out (Step.refl c)) rfl rfl)
  · have h' : (if (partsS st).n = 1 then isRet0 me else ok Y.T X.sc me (partsS st).a) = true := h
    rw [if_neg hn] at h'
    show wpAny _ _ (exec (.Return (if (partsS st).n = 1 then none else some (ex Y.T me (partsS st).a)) (partsS st).p) X.env) _ _ _
    rw [if_neg hn]
    exact wpAny_Return_some (seqE S (soundE me X.toBlk _ loc c h' S.ex) g fun c₁ u m S₁ s₁ r₁ g => g.ret c₁ u m S₁.K (S₁.out (Step.refl c₁)) rfl r₁)
theorem ss_aug (i : Nat) (o : Op) (me : ME) : SS Y (.aug i o me) := fun X R st loc c h S Q E g => by
  have hx : X.sc.own (parts (partsS st).a).s = some i := beq_iff_eq.mp (and_l h)
  have h2 := and_r h
  obtain ⟨w, q, g⟩ := GoS.opt (o := (lget loc i).val?) g
  obtain ⟨rv, hs, hr⟩ := S.L _ i (own_slot hx) (fun z => nomatch (LV.val_of q).symm.trans z)
  rw [LV.val_of q] at hr
  refine wpAny_AugAssign_Name (wp_var X.V S.K hs (seqE S (soundE me X.toBlk _ loc c (and_l h2) S.ex) g fun c₁ u m S₁ s₁ r₁ g => ?_))
  obtain ⟨r, e, g⟩ := g.opt
  obtain ⟨a, b, rfl, rfl, e⟩ := intz_of e
  obtain ⟨t, rfl⟩ := hr
  obtain ⟨t', rfl⟩ := r₁
  have fin : ∀ (z : Int), r = .int z → wpAny Y.M X.A (storeName X.env (parts (partsS st).a).s (.int z c₁.s.toks)) (fun _ => Q .next) E { c₁.s with toks := c₁.s.toks + 1 } := fun z ez => by
    subst ez
    exact wp_store (c := c₁.heap c₁.s.heap (c₁.s.toks + 1)) (S₁.step (Step.heap c₁ _ _) (S₁.K.heap _ fun _ _ e => e)) (lv := .val (.int z)) hx ⟨_, rfl⟩ newOk_val fun c₃ S₃ b₃ h₃ _ => g.next c₃ _ S₃ ((Step.heap c₁ _ _).toStB.trans b₃) (by rw [h₃]; rfl)
  cases o with
  | add => cases e; exact iadd_int (fin _ rfl)
  | sub => cases e; exact isub_int (fin _ rfl)
  | _ => cases and_r h2
theorem SEs.wkL {es : MEs} (hs : SEs Y es) {B : Blk Y} {xs : List Expr} {loc : Loc} {c : Cf} {p : Pos} (h : oks Y.T B.sc es xs = true) (x : Ex B loc c) : Wk Y B.A B.l (spliced (backTo p (starEach (exs Y.T es xs) B.env))) (fun c v m => VRsc Y c v m ∧ m.length = (exs Y.T es xs).length) (evalEs Y.P B.cf es loc c.H) c :=
  fun Q E g => hs.args B xs loc c p h x Q E ⟨g.nb, fun c' v b k s e r => g.ok c' v b k s e ⟨r, (evalEs_len e).symm⟩, g.ex⟩
theorem two_k' {n : Nat} (h : n ≤ 1000) : n ≤ 2000 := Nat.le_trans h (by decide)
theorem ss_accNew (i : Nat) (es : MEs) : SS Y (.accNew i es) := fun X R st loc c h S Q E g => by
  have h2 := and_r h
  refine wpAny_Assign_Name (wp_of (arm_eval_List ..) (wpAny_bind (wpAny_standAt (wpAny_bind (seqE S ((soundEs es).wkL (and_l h2) S.ex) g fun c₁ vs ms S₁ s₁ r₁ g => ?_))))) rfl
  have hz : ms.length ≤ 1000 := r₁.2 ▸ of_decide_eq_true (and_r h2)
  refine wpAny_newList ?_ (line_k ((VRs.length r₁.1).symm ▸ hz : vs.length ≤ 1000))
  have hf := S₁.K.free (Nat.le_refl c₁.s.heap.objs.size)
  exact store_acc S₁ ((Step.refl c₁).setM (x := some (.ex (listOf vs.toArray 0))) (h := c₁.s.heap.push (listOf vs.toArray 0)) (tk := c₁.s.toks) hf.2) (S₁.K.setM _ (un_free hf) (fun _ _ _ e => Heap.get?_push_of_some _ e) fun _ hy => Option.some.inj hy ▸ at_ex (Heap.get?_push_size _ rfl)) (own_of (and_l h)) hf.2 (Cf.setM_m ..) r₁.1 (two_k' hz) fun c' S' b' h' => g.next c' _ S' b' (by rw [h']; rfl)
theorem ss_accCopy (i : Nat) (me : ME) : SS Y (.accCopy i me) := fun X R st loc c h S Q E g => by
  refine wpAny_Assign_Name (wp_of (eval_Sub ..) (wpAny_bind (seqE S (soundE me X.toBlk _ loc c (and_r h) S.ex) g fun c₁ o m S₁ s₁ r₁ g => wpAny_bind (wpAny_holding (slice_0 (slice_end ?_)))))) rfl
  obtain ⟨xs, q, g⟩ := g.opt
  obtain ⟨ys, q1, q2⟩ := of_bind q
  cases MV.list_of q1
  obtain ⟨p, rfl⟩ := of_guard q2
  have hz := of_decide_eq_true p
  refine wp_slice (r := .list ys) S₁.K r₁ part_lo part_hi (congrArg (fun z => some (MV.list z)) (by unfold cut; rw [List.take_length]; rfl)) fun {h' a xs' vs} e hv hl hs he ha => ?_
  cases e
  have hf := S₁.K.free hs
  exact store_acc S₁ ((Step.refl c₁).setM (x := some (.ex (listOf vs.toArray 0))) (h := h') (tk := c₁.s.toks) hf.2) (S₁.K.setM _ (un_free hf) (fun b o _ e => he b o e) fun _ hy => Option.some.inj hy ▸ at_ex ha) (own_of (and_l h)) hf.2 (Cf.setM_m ..) hv (two_k' hz) fun c' S' b' h' => g.next c' _ S' b' (by rw [h']; rfl)
theorem ss_accApp (i : Nat) (me : ME) : SS Y (.accApp i me) := fun X R st loc c h S Q E g => by
  have h2 := and_r h
  have h3 := and_r h2
  have hns := and_r h3
  have hx := own_of (and_l h)
  obtain ⟨xs, q, g⟩ := GoS.opt (o := (lget loc i).acc?) g
  have q := LV.acc_of q
  refine wpAny_Expr_any ?_ (by unfold interactive; rw [X.V.kind]; rfl) rfl
  refine wp_of (arm_eval_Call ..) ?_
  obtain ⟨a, vs, m, hs, hm, hv, hz⟩ := S.acc_at hx q
  refine wpAny_bind (wpAny_Name (wp_var X.V S.K hs (wpAny_bind (wpAny_standAt ?_))) (slot_dbg (own_slot hx)))
  have hform : methodCallForm ([ex Y.T me (hd1 (parts (partsS st).a).xs)].length + ([] : List Keyword).length) (backTo (parts (partsS st).a).p (starEach [ex Y.T me (hd1 (parts (partsS st).a).xs)] X.env)) (backToKw (parts (partsS st).a).p (keywordEach [] X.env)) = true := by
    rw [backTo_cons hns]; rfl
  unfold methodCall
  rw [hform]
  refine wpAny_bind (wpAny_holding (getMethod_list_append (ex_at (S.K.inv.m _ _ hm)) rfl rfl ?_))
  have hp : methodCallPos true (asName (parts (partsS st).a).a) X.env (parts (partsS st).a).q (parts (partsS st).a).p = pure (parts (partsS st).a).p := by unfold methodCallPos; rw [and_l h2]; rfl
  show wpAny _ X.A (methodCallPos true (asName (parts (partsS st).a).a) X.env (parts (partsS st).a).q (parts (partsS st).a).p >>= fun cp => callWith cp (.builtin "list.append") [.ref a] (backTo (parts (partsS st).a).p (starEach [ex Y.T me (hd1 (parts (partsS st).a).xs)] X.env)) (backToKw (parts (partsS st).a).p (keywordEach [] X.env))) _ _ _
  rw [hp]
  refine wpAny_bind (wpAny_pure (wp_callWith (PH := fun _ => True) (NoStars.cons hns NoStars.nil) (fun h _ => ⟨.machine, .inr (.inl rfl), Looks.of_pure rfl⟩) ?_))
  rw [backTo_cons hns]
  refine spliced_cons (seqE S (soundE me X.toBlk _ loc c (and_l h3) S.ex) g fun c₁ u mv S₁ s₁ r₁ g => spliced_nil ⟨trivial, ?_⟩)
  obtain ⟨ys, p, g⟩ := g.opt
  obtain ⟨p₂, rfl⟩ := of_guard p
  have hl : xs.length < 1000 := of_decide_eq_true p₂
  have hm1 := s₁.keep rfl hm
  have hv1 := VRs.mono s₁.z s₁.p _ hv
  refine wpAny_list_append_plain ⟨m, ex_at (S₁.K.inv.m _ _ hm1)⟩ (fun h' ⟨n', hp'⟩ hsb => ?_) (line_k (hv.length.symm ▸ Nat.le_of_lt hl : vs.length ≤ 1000))
  have k2 := S₁.K.setM (x := some (.ex (listOf (vs ++ [u]).toArray n'))) c₁.s.toks (S₁.K.un hm1 rfl) (fun b o n e => (hsb.2 b n).trans e) fun y hy => Option.some.inj hy ▸ at_ex (hp'.trans (by rw [List.push_toArray]))
  exact g.next _ _ (S₁.changed (c' := c₁.setM a (some (.ex (listOf (vs ++ [u]).toArray n'))) h' c₁.s.toks) (lv := .acc (xs ++ [mv])) hx q (hs.step s₁) hm1 k2 ⟨ZLe.refl, PLe.refl, rfl⟩ (fun b hb => Cf.setM_ne hb) (fun m e => nomatch (Cf.setM_m ..).symm.trans e) (fun v e => nomatch (Cf.setM_m ..).symm.trans e)
    ⟨a, vs ++ [u], n', rfl, Cf.setM_m .., hv1.append ⟨u, [], rfl, r₁, rfl⟩, by rw [List.length_append]; exact Nat.le_trans (Nat.add_le_add_right (Nat.le_of_lt hl) 1) (by decide)⟩) ⟨ZLe.refl, PLe.refl, rfl⟩ rfl
end
end Mini
end
noncomputable section
namespace Mini
open PySem PySem.W PySem.Calls PyProof.Rows
noncomputable def vput (f : Nat) (v : Value) : List Nat → List Value → List Value
  | c :: cs, x :: vs => if c = f then v :: vs else x :: vput f v cs vs
  | _, _ => [v]
theorem fput_mem {f : Nat} {m : MV} : ∀ {fs : Flds} {p : Nat × MV}, p ∈ fput f m fs → p.1 = f ∨ p ∈ fs
  | [], _, h => .inl (congrArg (·.1) (List.mem_singleton.mp h))
  | (g, u) :: r, p, h => by
    unfold fput at h
    by_cases q : g = f
    · rw [if_pos q] at h
      exact (List.mem_cons.mp h).elim (fun e => .inl (e ▸ q)) fun h => .inr (.tail _ h)
    · rw [if_neg q] at h
      exact (List.mem_cons.mp h).elim (fun e => .inr (e ▸ .head _)) fun h => (fput_mem h).imp id (.tail _)
theorem fput_len {f : Nat} {m : MV} : ∀ fs : Flds, (fput f m fs).length ≤ fs.length + 1
  | [] => Nat.le_refl _
  | (g, u) :: r => by
    unfold fput
    by_cases q : g = f
    · rw [if_pos q]; exact Nat.le_succ _
    · rw [if_neg q]; exact Nat.succ_le_succ (fput_len r)
section
variable {Y : Sys}
theorem vput_vrs {Z : ZM} {φ : PH} {f : Nat} {v : Value} {m : MV} (h : VR Y Z φ m v) : ∀ {fs : Flds} {vs : List Value}, VRs Y Z φ (fs.map (·.2)) vs → VRs Y Z φ ((fput f m fs).map (·.2)) (vput f v (fs.map (·.1)) vs)
  | [], _, e => e ▸ ⟨v, [], rfl, h, rfl⟩
  | (g, u) :: r, _, ⟨w, r', e, a, t⟩ => by
    subst e
    unfold fput
    rw [List.map_cons]
    show VRs Y Z φ _ (if g = f then v :: r' else w :: vput f v _ r')
    by_cases q : g = f
    · rw [if_pos q, if_pos q]; exact ⟨v, r', rfl, h, t⟩
    · rw [if_neg q, if_neg q]; exact ⟨w, _, rfl, a, vput_vrs h t⟩
theorem vput_ents {T : Tie} (hn : T.names.Nodup) {f : Nat} (hf : f < T.names.length) {v : Value} {m : MV} {t : Tok} : ∀ {fs : Flds} {vs : List Value} {es : List DictEntry}, Ents T.hs (fs.map fun p => nameOf T p.1) vs es → (∀ p ∈ fs, p.1 < T.names.length) →
    Ents T.hs ((fput f m fs).map fun p => nameOf T p.1) (vput f v (fs.map (·.1)) vs) (putL (nameOf T f) (T.hs (nameOf T f)) (.str (nameOf T f) t) v es)
  | [], _, _, .nil, _ => .cons t .nil
  | (g, u) :: r, _, _, .cons tk x, hv => by
    have ih := vput_ents hn hf (m := m) (v := v) (t := t) x fun p hp => hv p (.tail _ hp)
    unfold fput
    rw [List.map_cons]
    by_cases q : g = f
    · subst q
      rw [if_pos rfl]
      unfold vput putL
      rw [if_pos rfl, show (Value.str (nameOf T g) tk).isStr (nameOf T g) = true from beq_self_eq_true _]
      exact .cons tk x
    · have hne : (nameOf T g == nameOf T f) = false := beq_eq_false_iff_ne.mpr fun e => q (nameOf_inj hn (hv _ (.head _)) hf e)
      rw [if_neg q]
      unfold vput putL
      rw [if_neg q, show (Value.str (nameOf T g) tk).isStr (nameOf T f) = false from hne]
      exact .cons tk ih
theorem full_apart {as : List Addr} {h : Heap} : (full as h).Pairwise fun p q => p.1 ≠ q.1 := by
  unfold full
  refine List.Pairwise.filterMap _ (fun a a' ha p hp q hq => ?_) (List.nodup_range)
  have fst : ∀ {a : Addr} {p : Addr × Obj}, (if a ∈ as then none else (h.get? a).map fun o => (a, o)) = some p → p.1 = a := fun {a p} hp => by
    by_cases m : a ∈ as
    · rw [if_pos m] at hp; cases hp
    · rw [if_neg m] at hp
      obtain ⟨_, _, rfl⟩ := Option.map_eq_some_iff.mp hp; rfl
  rw [fst hp, fst hq]; exact ha
theorem full_split {as : List Addr} {h : Heap} {a : Addr} {o : Obj} (n : a ∉ as) (e : h.get? a = some o) :
    ∃ pre post, full as h = pre ++ (a, o) :: post ∧ (∀ p ∈ pre, p.1 ≠ a) ∧ ∀ p ∈ post, p.1 ≠ a := by
  obtain ⟨pre, post, q⟩ := List.append_of_mem (mem_full n e)
  have hp := full_apart (as := as) (h := h)
  rw [q, List.pairwise_append] at hp
  exact ⟨pre, post, q, fun p hm => hp.2.2 p hm (a, o) (.head _), fun p hm => Ne.symm ((List.pairwise_cons.mp hp.2.1).1 p hm)⟩
variable {A : Around} {c : Cf}
theorem Inv.of_put {Z : ZM} {Mu : MU} {h h' : Heap} {L dx : Addr} {m : Str → Option Value} {pre post : List (Addr × Obj)} {od od' : Obj} {x x' : MC} (I : Inv Z Mu h) (hL : Mu L = some (.fr m)) (hd : Mu dx = some x) (hx : x'.is od')
    (e : full [L] h = pre ++ (dx, od) :: post) (F : h'.Ns L m) (N : News noHeap L h' (pre ++ (dx, od') :: post)) : Inv Z (upd Mu dx (some x')) h' := by
  have g : ∀ a o, a ≠ L → a ≠ dx → h.get? a = some o → h'.get? a = some o := fun a o n n2 q => by
    have hm := mem_full (as := [L]) (fun q => n (List.mem_singleton.mp q)) q
    rw [e] at hm
    refine (N (a, o) ((List.mem_append.mp hm).elim (List.mem_append_left _) fun hm => (List.mem_cons.mp hm).elim (fun hm => ?_) fun hm => List.mem_append_right _ (.tail _ hm))).1
    cases hm; exact absurd rfl n2
  refine ⟨fun a o q => g a o (ne_none (I.d L _ hL) q) (ne_none (I.d dx _ hd) q) (I.z a o q), fun a y q => ?_, fun a y q => (upd_cases q).elim (fun q => q.1 ▸ I.d dx _ hd) fun q => I.d a y q.2⟩
  rcases upd_cases q with ⟨rfl, q₂⟩ | ⟨h1, q₂⟩
  · cases q₂; exact ⟨od', (N _ (List.mem_append_right _ (.head _))).1, hx⟩
  · by_cases h2 : a = L
    · subst h2; cases hL.symm.trans q₂; exact at_fr F
    · exact MC.at_to (fun o => g a o h2 h1) (I.m a y q₂)
theorem wp_put (k : c.Ok Y) {L : Addr} {m : Str → Option Value} (hL : c.Mu L = some (.fr m)) {cl : MCls} {C x dx : Addr} (CO : ClsOk Y.T cl C) {f : Nat} (hf : f ∈ cl.flds) (hx : c.Z x = some (instObj C dx))
    {y : MC} {es : List DictEntry} {n : Nat} (hd : c.Mu dx = some y) (gd : c.s.heap.get? dx = some (dictOf es n)) (hyL : ∀ m, y ≠ .fr m) {fs : Flds} {vs : List Value} (hE : Ents Y.T.hs (fs.map fun p => nameOf Y.T p.1) vs es) (hv : ∀ p ∈ fs, p.1 < Y.T.names.length) (hz : fs.length < 100) {v : Value} {mv : MV}
    {E : Value → Shared → Prop} {Q : Unit → Shared → Prop}
    (h : ∀ h' es' n' tk, (∀ y' : MC, y'.is (dictOf es' n') → Inv c.Z (upd c.Mu dx (some y')) h') → Ents Y.T.hs ((fput f mv fs).map fun p => nameOf Y.T p.1) (vput f v (fs.map (·.1)) vs) es' → Q () { c.s with heap := h', toks := tk }) :
    wpAny Y.M A (setAttr (.ref x) (nameOf Y.T f) v) Q E c.s := by
  have hne : dx ≠ L := fun q => hyL m (Option.some.inj (hd.symm.trans (q ▸ hL)))
  obtain ⟨hlt, ⟨a, e1, e2⟩, ht⟩ := CO.flds f hf
  have I : W.InstAt c.s.heap x (instObj C dx) C (some (dictOf es n)) := ⟨k.inv.z _ _ hx, rfl, rfl, gd⟩
  refine set_plain k.kin I CO.setattr ?_
  obtain ⟨pre, post, q, h1, h2⟩ := full_split (as := [L]) (fun q => hne (List.mem_singleton.mp q)) gd
  have N := k.news L
  rw [q] at N
  have hl : (lookIn (nameOf Y.T f) (dictOf es n)).isSome = true := by
    rw [lookIn_dict]
    unfold getL
    rw [ents_ref hE]
    split <;> rfl
  have hd' : (clsIn Y.T.K C).any (·.hasDict) = true := CO.dict
  refine osa_dict (s := { c.s with toks := c.s.toks + 1 }) (k.fr hL) N k.kin I rfl CO.over ht hd' hl h1 h2 (putName_dict ..) rfl ?_ fun h' F' N' => ?_
  · have e3 := (vput_ents Y.X.names hlt (v := v) (m := .none) (t := c.s.toks + 1) hE hv).length.1
    rw [← Y.hs, e3, List.length_map]
    exact Nat.le_trans (fput_len fs) (Nat.le_trans hz (by decide))
  · refine h h' _ _ (c.s.toks + 1 + 1) (fun y' hy' => Inv.of_put k.inv hL hd hy' q F'.ns N') ?_
    rw [← Y.hs]
    exact vput_ents Y.X.names hlt hE hv
noncomputable def Cf.setD (c : Cf) (dx : Addr) (o : Obj) (a : Nat) (ob : MObj) (h : Heap) (tk : Nat) : Cf := { c with Mu := upd c.Mu dx (some (.st o)), H := c.H.set a ob, s := { c.s with heap := h, toks := tk } }
theorem Cf.Ok.setD {dx : Addr} {es : List DictEntry} {n a tk : Nat} {h' : Heap} {ob : MObj} {x : Addr} {vs : List Value} (ok : c.Ok Y) (hp : c.φ[a]? = some (x, dx)) (I : Inv c.Z (upd c.Mu dx (some (.st (dictOf es n)))) h')
    (ho : ObjAt Y c.Z c.φ (upd c.Mu dx (some (.st (dictOf es n)))) ob x dx es n vs) : (c.setD dx (dictOf es n) a ob h' tk).Ok Y := by
  refine ⟨I, ⟨ok.hr.len.trans (List.length_set ..).symm, fun i o e => ?_, ok.hr.nd⟩, ok.base⟩
  have e' : (c.H.set a ob)[i]? = some o := e
  by_cases hi : a = i
  · subst hi
    rw [List.getElem?_set_self (ok.hr.len ▸ (List.getElem?_eq_some_iff.mp hp).1)] at e'
    cases e'
    exact ⟨x, dx, es, n, vs, hp, ho⟩
  · rw [List.getElem?_set_ne hi] at e'
    obtain ⟨x', dx', es1, n1, vs1, q1, O⟩ := ok.hr.obj i o e'
    refine ⟨x', dx', es1, n1, vs1, q1, O.mono ZLe.refl PLe.refl ((upd_ne fun z => hi ?_).trans O.mu)⟩
    have h1 : (c.φ.map (·.2))[i]? = some dx' := by rw [List.getElem?_map, q1]; rfl
    have h2 : (c.φ.map (·.2))[a]? = some dx := by rw [List.getElem?_map, hp]; rfl
    exact ((List.getElem?_inj (List.getElem?_eq_some_iff.mp h1).1 ok.hr.nd).mp (h1.trans ((congrArg some z).trans h2.symm))).symm
theorem Step.setD {dx : Addr} {o o' : Obj} {a tk : Nat} {h' : Heap} {ob : MObj} (hd : c.Mu dx = some (.st o)) : Step c (c.setD dx o' a ob h' tk) :=
  ⟨⟨ZLe.refl, PLe.refl, rfl⟩, fun b x e => if z : b = dx then ⟨_, (by subst z; exact upd_self ..), fun n => by subst z; rw [hd] at e; cases e; cases n⟩ else ⟨x, (upd_ne z).trans e, fun _ => rfl⟩⟩
theorem ss_setAttr (me : ME) (f : Nat) (mv : ME) : SS Y (.setAttr me f mv) := fun X R st loc c h S Q E g => by
  have h2 := and_r h
  refine wp_of (plainObj_exec_Assign_Attribute _ _ _ _ _ (noComp_plain (and_r h2) _ _ _)) (wpAny_bind (wpAny_standAt (wpAny_bind (seqE S (soundE mv X.toBlk _ loc c (and_l h) S.ex) g fun c₁ u m S₁ s₁ r₁ g => ?_))))
  refine wpAny_bind (wp_of (assign_Attribute ..) (wpAny_bind (wpAny_holding (seqE S₁ (soundE me X.toBlk _ loc c₁ (and_l h2) S₁.ex) g fun c₂ u' m' S₂ s₂ r₂ g => wpAny_bind (wpAny_standAt (wpAny_bind (wpAny_holding ?_)))))))
  obtain ⟨H', e, g₂⟩ := g.opt
  obtain ⟨a, q, e₁⟩ := of_bind e
  cases MV.obj_of q
  obtain ⟨ob, ho, e₂⟩ := of_bind e₁
  obtain ⟨p, rfl⟩ := of_guard e₂
  have hz : ob.fs.length < 100 := of_decide_eq_true (and_r p)
  obtain ⟨k, hk, hso⟩ := any_some (and_l p)
  have hr := not_t (and_l hso)
  have hfm : f ∈ k.flds := List.contains_iff_mem.mp (and_r hso)
  obtain ⟨x, dx, rfl, hp⟩ := r₂
  obtain ⟨x', dx', es, n, vs, hp', O⟩ := S₂.K.hr.obj a ob ho
  cases hp.symm.trans hp'
  obtain ⟨C, I₀⟩ := O.own hk
  have CO := cls_at hk I₀.adr
  obtain ⟨L, fm, hL⟩ := S₂.ex.top
  refine wp_put S₂.K hL CO hfm I₀.inst O.mu (st_at (S₂.K.inv.m _ _ O.mu)) (fun _ h => nomatch h) O.en O.nm hz (mv := m) fun h' es' n' tk I hE => ?_
  have hob : ObjAt Y c₂.Z c₂.φ (upd c₂.Mu dx (some (.st (dictOf es' n')))) ⟨ob.c, fput f m ob.fs⟩ x dx es' n' _ :=
    ⟨upd_self .., hE, vput_vrs (r₁.step s₂.toStB) O.vr, fun p hp => (fput_mem hp).elim (fun e => e ▸ (CO.flds _ hfm).1) (O.nm p), .inl ⟨k, C, hk, hr, I₀.adr, I₀.inst, fun p hp => (fput_mem hp).elim (fun e => e ▸ hfm) (I₀.flds p)⟩⟩
  have k3 := S₂.K.setD (tk := tk) hp (I (.st _) rfl) hob
  have s3 : Step c₂ (c₂.setD dx (dictOf es' n') a ⟨ob.c, fput f m ob.fs⟩ h' tk) := Step.setD O.mu
  exact wpAny_release (wpAny_pure (g₂.next _ loc (S₂.step s3 k3) s3.toStB rfl))
end
end Mini
end
noncomputable section
namespace Mini
open PySem PySem.W PySem.Calls PyProof.Rows
theorem fput_new {f : Nat} {m : MV} : ∀ (fs : Flds), f ∉ fs.map (·.1) → fput f m fs = fs ++ [(f, m)]
  | [], _ => rfl
  | (g, u) :: r, h => by
    unfold fput
    rw [if_neg (fun e => h (by rw [e]; exact .head _)), fput_new r (fun hm => h (.tail _ hm))]; rfl
section
variable {prog : Program} {w : World} {A : Around} {E : Value → Shared → Prop} {Q : Unit → Shared → Prop}
theorem wp_dictSet {s : Shared} {d : Addr} {es : List DictEntry} {n : Nat} {x : Str} {t : Tok} {v : Value} (ho : s.heap.get? d = some (dictOf es n)) (hk : KeysOf (strKind prog w) es.toArray) (hz : es.length ≤ sizeLine)
    (h : ∀ h', Heap.SameBut d s.heap h' → h'.get? d = some (dictOf (putL x (hashStr w x) (.str x t) v es) (putN x es n)) → Q () { s with heap := h', toks := s.toks + 1 }) :
    wpAny (model prog w) A (dictSet d (.str x t) v) Q E s := by
  have hkey := strKind_is prog w x t
  have hd : (dictOf es n).data = .dict es.toArray n := rfl
  unfold dictSet
  try with_reducible refine wpAny_holding ?_
  refine wpAny_bind ((strKind prog w).pyHash hkey ?_)
  unfold dictSetHashed
  try with_reducible refine wpAny_holding ?_
  refine wpAny_bind (wpAny_dictFind_of (s := { s with toks := s.toks + 1 }) hkey ho hd hk ?_)
  rw [show (fun e : DictEntry => (strKind prog w).is x e.key) = fun e => e.key.isStr x from funext fun e => isStrOf_eq _ _, List.findIdx?_toArray]
  have hp := putL_find x (hashStr w x) (.str x t) v es
  have ha := any_of_findIdx x es
  cases hi : es.findIdx? (fun e => e.key.isStr x) with
  | some i =>
    rw [hi] at hp ha
    refine wpAny_bind (wpAny_rule (wpAny_bind (wpAny_updateDict (s := { s with toks := s.toks + 1 }) ho hd (wpAny_point (h _ (Heap.SameBut.update ..) ?_)))))
    refine (Heap.get?_update_self _ ho (Obj.isFreed_of_dict (Obj.data_mapDict hd _))).trans ?_
    unfold putN
    rw [← ha, ← hp]
    simp [Obj.mapDict, W.dictOf]
  | none =>
    rw [hi] at hp ha
    refine wpAny_bind (wpAny_rule (wpAny_updateDictKeys (hz := by simpa using hz) (s := { s with toks := s.toks + 1 }) ho hd (h _ (Heap.SameBut.update ..) ?_)))
    refine (Heap.get?_update_self _ ho (Obj.isFreed_of_dict (Obj.data_mapDictKeys hd _))).trans ?_
    unfold putN
    rw [← ha, ← hp]
    simp [Obj.mapDictKeys, W.dictOf, PySem.strKind]
theorem wp_setItem {s : Shared} {d : Addr} {es : List DictEntry} {n : Nat} {x : Str} {t : Tok} {v : Value} (ho : s.heap.get? d = some (dictOf es n)) (hk : KeysOf (strKind prog w) es.toArray) (hz : es.length ≤ sizeLine)
    (h : ∀ h', Heap.SameBut d s.heap h' → h'.get? d = some (dictOf (putL x (hashStr w x) (.str x t) v es) (putN x es n)) → Q () { s with heap := h', toks := s.toks + 1 }) :
    wpAny (model prog w) A (setItem (.ref d) (.str x t) v) Q E s := by
  have ti : s.TypeIs (.ref d) "dict" := ⟨_, ho, rfl⟩
  unfold setItem
  try with_reducible refine wpAny_holding ?_
  refine wpAny_bind (wpAny_sequenceKey ti (by decide) ?_)
  refine wpAny_bind (wpAny_callSpecial?_slot (name := Str.ofString "__setitem__") ti PySem.slot_dict_setitem
    (wpAny_call_entry PySem.slot_dict_setitem ti PySem.entry_dict_setitem ?_ (PySem.args_dict_setitem _ _ _)))
  show wpAny _ _ (Builtin.Dict.notOrdered "__setitem__" ⟨[.ref d, .str x t, v], []⟩ >>= _) _ _ s
  refine wpAny_bind (wpAny_notOrdered_dict ti ?_)
  show wpAny _ _ (dictSet d (.str x t) v >>= _) _ _ s
  exact wpAny_bind (wp_dictSet ho hk hz fun h' hs ho' => wpAny_pure ⟨.none, rfl, wpAny_pure (h h' hs ho')⟩)
end
section
variable {Y : Sys}
theorem hs_str (n : Str) : Y.T.hs n = hashStr Y.w n := Y.hs n
theorem SameBut.to {a : Addr} {h h' : Heap} (s : Heap.SameBut a h h') : ∀ b o, b ≠ a → h.get? b = some o → h'.get? b = some o := fun b _ n e => (s.2 b n).trans e
theorem ss_setKey (me : ME) (f : Nat) (mv : ME) : SS Y (.setKey me f mv) := fun X R st loc c h S Q E g => by
  have h2 := and_r h
  refine wpAny_Assign_Subscript (seqE S (soundE mv X.toBlk _ loc c (and_l h) S.ex) g fun c₁ u m S₁ s₁ r₁ g => ?_) (noComp_plain (and_r h2) _ _ _)
  refine seqE S₁ (soundE me X.toBlk _ loc c₁ (and_l h2) S₁.ex) g fun c₂ u' m' S₂ s₂ r₂ g => ?_
  obtain ⟨H', e, g₂⟩ := g.opt
  obtain ⟨a, q, e₁⟩ := of_bind e
  cases MV.obj_of q
  obtain ⟨ob, ho, e₂⟩ := of_bind e₁
  obtain ⟨p, rfl⟩ := of_guard e₂
  obtain ⟨hc, hz⟩ : ob.c = Y.P.cls.length ∧ ob.fs.length < 100 := of_decide_eq_true (and_l p)
  obtain ⟨r, hg⟩ := Option.isSome_iff_exists.mp (and_r p)
  have hgk : getKey Y.P (.obj a) f c₂.H = some r := by
    show (c₂.H[a]?.bind fun o => if o.c = Y.P.cls.length then fget f o.fs else Option.none) = _
    rw [ho]; exact (if_pos hc).trans hg
  obtain ⟨a', dx, ob', es, n, vs, ea, rfl, hp, ho', _, _, O⟩ := dict_at S₂.K r₂ hgk
  cases ea
  cases ho.symm.trans ho'
  have hlt : f < Y.T.names.length := by
    obtain ⟨p0, hp0, hpe⟩ := List.mem_map.mp (fget_some hg).2
    exact hpe ▸ O.nm p0 hp0
  have gd : c₂.s.heap.get? dx = some (dictOf es n) := st_at (S₂.K.inv.m _ _ O.mu)
  refine wpAny_Constant_str (wp_setItem (s := { c₂.s with toks := c₂.s.toks + 1 }) gd (keys_of Y.hs O.en) ?_ fun h' hs hdx => ?_)
  · rw [O.en.length.1, List.length_map]; exact line_k (Nat.le_trans (Nat.le_of_lt hz) (by decide))
  · rw [← hs_str] at hdx
    have I := S₂.K.inv.setM (S₂.K.inv.d _ _ O.mu) (SameBut.to hs) (x := some (.st _)) (fun y q => by cases q; exact ⟨_, hdx, rfl⟩)
    have hob : ObjAt Y c₂.Z c₂.φ (upd c₂.Mu dx (some (.st _))) ⟨ob.c, fput f m ob.fs⟩ dx dx _ (putN (nameOf Y.T f) es n) _ :=
      ⟨upd_self .., vput_ents Y.X.names hlt (m := m) (v := u) (t := c₂.s.toks) O.en O.nm, vput_vrs (r₁.step s₂.toStB) O.vr, fun p hp => (fput_mem hp).elim (fun e => e ▸ hlt) (O.nm p), .inr ⟨hc, rfl⟩⟩
    have k3 := S₂.K.setD (tk := c₂.s.toks + 1 + 1) hp I hob
    have s3 := Step.setD (c := c₂) (o' := dictOf (putL (nameOf Y.T f) (Y.T.hs (nameOf Y.T f)) (.str (nameOf Y.T f) c₂.s.toks) u es) (putN (nameOf Y.T f) es n)) (a := a) (ob := ⟨ob.c, fput f m ob.fs⟩) (h' := h') (tk := c₂.s.toks + 1 + 1) O.mu
    exact g₂.next _ loc (S₂.step s3 k3) s3.toStB rfl
inductive KVs (T : Tie) : List Nat → List (Value × Value) → List Value → Prop
  | nil : KVs T [] [] []
  | cons (k : Nat) (t : Tok) {v ks kvs vs} : k < T.names.length → KVs T ks kvs vs → KVs T (k :: ks) ((.str (nameOf T k) t, v) :: kvs) (v :: vs)
theorem exK_len {T : Tie} : ∀ (ks : List Nat) (kk : List (Option Expr)), (exK T ks kk).length = ks.length ∧ (exK T ks kk).all (·.isSome) = true
  | [], _ => ⟨rfl, rfl⟩
  | _ :: ks, kk => ⟨congrArg (· + 1) (exK_len ks kk.tail).1, (exK_len ks kk.tail).2⟩
theorem Go.tokC {α β : Type} {l : List Env} {Rel : Cf → α → β → Prop} {r : RS β} {c : Cf} {Q : α → Shared → Prop} {E : Value → Shared → Prop} (g : Go Y l Rel r c Q E) (n : Nat) : Go Y l Rel r (c.heap c.s.heap n) Q E :=
  ⟨g.nb, fun c' v b k s e h => g.ok c' v b k ((Step.heap c _ n).trans s) e h, fun c' k e a C B a0 o s q f => g.ex c' k e a C B a0 o ((Step.heap c _ n).trans s) q f⟩
theorem pairs_eval : ∀ (es : MEs) (ks : List Nat) (kk : List (Option Expr)) (xs : List Expr) (B : Blk Y) (loc : Loc) (c : Cf) (pos : Pos), oks Y.T B.sc es xs = true → (exs Y.T es xs).length = ks.length → (∀ k ∈ ks, k < Y.T.names.length) → Ex B loc c →
    Wk Y B.A B.l (evalPairs (pairTrees (exK Y.T ks kk) (exs Y.T es xs) B.env pos)) (fun c' kvs ms => ∃ vals, KVs Y.T ks kvs vals ∧ VRs Y c'.Z c'.φ ms vals) (evalEs Y.P B.cf es loc c.H) c
  | .nil, [], kk, xs, B, loc, c, pos, h, hl, hk, x => fun Q E g => evalPairs_nil (g.here x.K ⟨[], .nil, rfl⟩)
  | .nil, _ :: _, _, _, _, _, _, _, _, hl, _, _ => nomatch hl
  | .cons _ _, [], _, _, _, _, _, _, _, hl, _, _ => nomatch hl
  | .cons e r, k :: ks, kk, xs, B, loc, c, pos, h, hl, hk, x => fun Q E g => by
    have K1 := x.K.heap (h := c.s.heap) (c.s.toks + 1) fun _ _ e => e
    have X1 := x.step (Step.heap c c.s.heap (c.s.toks + 1)) K1
    refine evalPairs_cons (wpAny_Constant_str (wpAny_bind ((soundE e B (hd1 xs) loc _ (and_l (and_l h)) X1).seq (g.tokC (c.s.toks + 1)) fun c₁ v m k₁ s₁ r₁ g => wpAny_bind (wpAny_standAt (wpAny_pure ?_)))))
    exact (pairs_eval r ks kk.tail xs.tail B loc c₁ pos (and_r h) (Nat.succ.inj hl) (fun q hq => hk q (.tail _ hq)) (X1.step s₁ k₁)).seq g fun c₂ kvs ms k₂ s₂ r₂ g =>
      let ⟨vals, hkv, hvr⟩ := r₂; g.here k₂ ⟨v :: vals, .cons k _ (hk k (.head _)) hkv, v, vals, rfl, VR.mono s₂.z s₂.p m r₁, hvr⟩
theorem Inv.sameBut {Z : ZM} {Mu : MU} {h h' : Heap} {D : Addr} (I : Inv Z Mu h) (hz : Z D = none) (hm : Mu D = none) (s : Heap.SameBut D h h') : Inv Z Mu h' :=
  ⟨fun a o e => SameBut.to s a o (ne_none hz e) (I.z a o e), fun a c e => MC.at_to (fun o => SameBut.to s a o (ne_none hm e)) (I.m a c e), I.d⟩
theorem store_all {A : Around} {Z : ZM} {φ : PH} {Mu : MU} {D : Addr} (hz : Z D = none) (hm : Mu D = none) {E : Value → Shared → Prop} {Q : PUnit → Shared → Prop} : ∀ {ks : List Nat} {kvs : List (Value × Value)} {vals : List Value} (s : Shared) (ms : List MV) (fs : Flds) (es : List DictEntry) (n : Nat) (vd : List Value), KVs Y.T ks kvs vals →
    VRs Y Z φ ms vals → (fs.map (·.1) ++ ks).Nodup → Inv Z Mu s.heap → s.heap.get? D = some (dictOf es n) → Ents Y.T.hs (fs.map fun p => nameOf Y.T p.1) vd es → VRs Y Z φ (fs.map (·.2)) vd → (∀ p ∈ fs, p.1 < Y.T.names.length) → fs.length + ks.length ≤ 100 →
    (∀ h' tk es' n' vd', Inv Z Mu h' → h'.get? D = some (dictOf es' n') → Ents Y.T.hs ((fs ++ ks.zip ms).map fun p => nameOf Y.T p.1) vd' es' → VRs Y Z φ ((fs ++ ks.zip ms).map (·.2)) vd' → (∀ p ∈ fs ++ ks.zip ms, p.1 < Y.T.names.length) → Q PUnit.unit { s with heap := h', toks := tk }) →
    wpAny Y.M A (storeAll D kvs) Q E s
  | _, _, _, s, ms, fs, es, n, vd, .nil, hv, hnd, I, gd, hE, hV, hN, hl, hQ => by
    unfold storeAll
    rw [List.forIn_nil]
    have q : fs ++ ([] : List Nat).zip ms = fs := List.append_nil fs
    exact wpAny_pure (hQ s.heap s.toks es n vd I gd (q.symm ▸ hE) (q.symm ▸ hV) (q.symm ▸ hN))
  | _, _, _, s, [], fs, es, n, vd, .cons .., hv, hnd, I, gd, hE, hV, hN, hl, hQ => nomatch hv
  | _, _, _, s, m :: ms, fs, es, n, vd, .cons (v := v) (ks := ks) (kvs := kvs) (vs := vs) k t hk r, ⟨_, _, e, h1, h2⟩, hnd, I, gd, hE, hV, hN, hl, hQ => by
    cases e
    unfold storeAll
    rw [List.forIn_cons]
    have hlen := hE.length.1
    rw [List.length_map] at hlen
    refine wpAny_bind (wpAny_bind (wp_dictSet gd (keys_of Y.hs hE) (hlen ▸ line_k (Nat.le_trans (Nat.le_trans (Nat.le_add_right _ _) hl) (by decide))) fun h' hs ho => wpAny_pure ?_))
    have hnew : k ∉ fs.map (·.1) := fun hm => (List.nodup_append.mp hnd).2.2 k hm k (.head _) rfl
    have hput : fput k m fs = fs ++ [(k, m)] := fput_new fs hnew
    rw [← hs_str] at ho
    have hE' := vput_ents Y.X.names hk (m := m) (v := v) (t := t) hE hN
    have hV' := vput_vrs (f := k) h1 hV
    have hN' : ∀ p ∈ fput k m fs, p.1 < Y.T.names.length := fun p hp => (fput_mem hp).elim (fun e => e ▸ hk) (hN p)
    refine store_all hz hm (ks := ks) (kvs := kvs) (vals := vs) { s with heap := h', toks := s.toks + 1 } ms (fput k m fs) _ _ _ r h2 ?_ (I.sameBut hz hm hs) ho hE' hV' hN' ?_ ?_
    · rw [hput, List.map_append, List.append_assoc]; exact hnd
    · rw [hput, List.length_append, Nat.add_assoc]
      exact (Nat.add_comm 1 ks.length) ▸ hl
    · intro h'' tk es' n' vd' g1 g2 g3 g4 g5
      have eq : fput k m fs ++ ks.zip ms = fs ++ (k :: ks).zip (m :: ms) := by rw [hput, List.append_assoc]; rfl
      rw [eq] at g3 g4 g5
      exact hQ h'' tk es' n' vd' g1 g2 g3 g4 g5
noncomputable def Cf.mkDict (c : Cf) (D : Addr) (o : Obj) (ob : MObj) (h : Heap) (tk : Nat) : Cf := { Z := c.Z, Mu := upd (upd c.Mu D none) D (some (.st o)), φ := c.φ ++ [(D, D)], H := c.H ++ [ob], s := { c.s with heap := h, toks := tk } }
theorem mkDict_ok {c : Cf} {D : Addr} {es : List DictEntry} {n tk : Nat} {h : Heap} {fs : Flds} {vs : List Value} {o : Obj} (ok : c.Ok Y) (hD : c.Mu D = some (.ex o)) (I : Inv c.Z (upd c.Mu D none) h) (gd : h.get? D = some (dictOf es n))
    (hE : Ents Y.T.hs (fs.map fun p => nameOf Y.T p.1) vs es) (hV : VRs Y c.Z c.φ (fs.map (·.2)) vs) (hN : ∀ p ∈ fs, p.1 < Y.T.names.length) : (c.mkDict D (dictOf es n) ⟨Y.P.cls.length, fs⟩ h tk).Ok Y := by
  have hlen := ok.hr.len
  have hz := ok.inv.d _ _ hD
  have ne : ∀ {a : Addr} {o : Obj}, c.Mu a = some (.st o) → a ≠ D := fun e q => by subst q; rw [hD] at e; cases e
  refine ⟨I.setM hz (fun _ _ _ e => e) (fun y q => by cases q; exact ⟨_, gd, rfl⟩), ⟨by show (c.φ ++ _).length = (c.H ++ _).length; rw [List.length_append, List.length_append, hlen]; rfl, fun i o e => ?_, ?_⟩, ok.base⟩
  · rcases Nat.lt_or_ge i c.H.length with hi | hi
    · obtain ⟨x', dx', es, n, vs, q1, O⟩ := ok.hr.obj i o ((List.getElem?_append_left hi).symm.trans e)
      exact ⟨x', dx', es, n, vs, PLe.append _ _ q1, O.mono ZLe.refl PLe.append ((upd_ne (ne O.mu)).trans ((upd_ne (ne O.mu)).trans O.mu))⟩
    · have e' : [(⟨Y.P.cls.length, fs⟩ : MObj)][i - c.H.length]? = some o := (List.getElem?_append_right hi).symm.trans e
      have hi' : i = c.H.length := Nat.le_antisymm (Nat.le_of_not_lt fun hlt => by rw [List.getElem?_eq_none (Nat.le_sub_of_add_le (by rw [Nat.add_comm]; exact hlt))] at e'; cases e') hi
      subst hi'
      rw [Nat.sub_self] at e'
      cases e'
      exact ⟨D, D, es, n, vs, (hlen ▸ List.getElem?_concat_length : (c.φ ++ [(D, D)])[c.H.length]? = _), upd_self .., hE, VRs.mono ZLe.refl PLe.append _ hV, hN, .inr ⟨rfl, rfl⟩⟩
  · show ((c.φ ++ [(D, D)]).map (·.2)).Nodup
    rw [List.map_append, List.nodup_append]
    refine ⟨ok.hr.nd, List.nodup_cons.mpr ⟨(fun h => nomatch h), List.nodup_nil⟩, fun a ha b hb' => ?_⟩
    rw [List.mem_singleton.mp hb']
    obtain ⟨⟨px, pd⟩, hp, rfl⟩ := List.mem_map.mp ha
    obtain ⟨i, hi, ei⟩ := List.getElem_of_mem hp
    obtain ⟨x', dx', es, n, vs, q1, O⟩ := ok.hr.obj i _ (List.getElem?_eq_getElem (hlen ▸ hi))
    have q := (List.getElem?_eq_getElem hi).symm.trans q1
    rw [ei] at q
    cases q
    exact ne O.mu
theorem ss_dictNew (i : Nat) (ks : List Nat) (es : MEs) : SS Y (.dictNew i ks es) := fun X R st loc c h S Q E g => by
  have hx : X.sc.own (parts (partsS st).a).s = some i := beq_iff_eq.mp (and_l h)
  have h2 := and_r h
  have h3 := and_r h2
  have h4 := and_r h3
  have hks : ∀ k ∈ ks, k < Y.T.names.length := fun k hk => of_decide_eq_true (List.all_eq_true.mp (and_l h3) k hk)
  obtain ⟨h0, h15⟩ : 1 ≤ ks.length ∧ ks.length ≤ 15 := of_decide_eq_true (and_l h4)
  have hl : (exs Y.T es (parts (partsS st).b).xs).length = ks.length := of_decide_eq_true (and_r h4)
  obtain ⟨kl, ka⟩ := exK_len (T := Y.T) ks (dictKs (partsS st).b)
  refine wpAny_Assign_Name (wpAny_Dict_any ka (kl.trans hl.symm) (fun q => by rw [q] at kl; rw [← kl] at h0; exact nomatch h0) (kl.symm ▸ h15) ?_) rfl
  have hf := S.K.free (Nat.le_refl c.s.heap.objs.size)
  have k1 : (c.setM c.s.heap.objs.size (some (.ex (dictOf [] 0))) (c.s.heap.push (dictOf [] 0)) c.s.toks).Ok Y := S.K.setM _ (un_free hf) (fun _ _ _ e => Heap.get?_push_of_some _ e) (fun y q => by cases q; exact ⟨_, Heap.get?_push_size _ rfl, rfl⟩)
  have s1 : Step c (c.setM c.s.heap.objs.size (some (.ex (dictOf [] 0))) (c.s.heap.push (dictOf [] 0)) c.s.toks) := (Step.refl c).setM hf.2
  refine seqE (S.step s1 k1) (pairs_eval es ks (dictKs (partsS st).b) _ X.toBlk loc _ _ (and_l h2) hl hks (S.step s1 k1).ex) (g.at s1.toStB rfl) fun c₂ kvs ms S₂ s₂ r₂ g => ?_
  obtain ⟨vals, hkv, hvr⟩ := r₂
  obtain ⟨_, e, g₂⟩ := g.opt
  obtain ⟨_, hz, hnd⟩ : ms.length = ks.length ∧ ks.length ≤ 100 ∧ ks.Nodup := of_decide_eq_true (of_guard e).1
  have hD : c₂.Mu c.s.heap.objs.size = some (.ex (dictOf [] 0)) := s₂.keep rfl (upd_self ..)
  have hZ := S₂.K.inv.d _ _ hD
  refine store_all hZ (upd_self c₂.Mu _ none) c₂.s ms [] [] 0 [] hkv hvr hnd (S₂.K.inv.setM hZ (fun _ _ _ e => e) (fun _ q => nomatch q)) (ex_at (S₂.K.inv.m _ _ hD)) .nil rfl (fun _ h => nomatch h) ((Nat.zero_add ks.length).symm ▸ hz) fun h' tk es' n' vd' I gd hE hV hN => ?_
  have k3 := mkDict_ok (tk := tk) S₂.K hD I gd hE hV hN
  have b3 : StB c₂ (c₂.mkDict c.s.heap.objs.size (dictOf es' n') ⟨Y.P.cls.length, ks.zip ms⟩ h' tk) := ⟨ZLe.refl, PLe.append, rfl⟩
  have s3 : Step c (c₂.mkDict c.s.heap.objs.size (dictOf es' n') ⟨Y.P.cls.length, ks.zip ms⟩ h' tk) :=
    ⟨(s1.trans s₂).toStB.trans b3, fun a x e => let ⟨y, e', f⟩ := (s1.trans s₂).k a x e; ⟨y, (upd_ne (ne_none hf.2 e)).trans ((upd_ne (ne_none hf.2 e)).trans e'), f⟩⟩
  exact wp_store (S.step s3 k3) (lv := .val (.obj c₂.H.length)) hx ⟨_, _, rfl, (S₂.K.hr.len ▸ List.getElem?_concat_length : (c₂.φ ++ [(c.s.heap.objs.size, c.s.heap.objs.size)])[c₂.H.length]? = _)⟩ newOk_val fun c₄ S₄ b₄ h₄ _ => g₂.next c₄ _ S₄ (b3.trans b₄) (by rw [h₄]; rfl)
end
end Mini
end
noncomputable section
namespace Mini
open PySem PySem.W PySem.Calls PyProof.Rows
section
variable {Y : Sys}
theorem setAll_len : ∀ {is : List Nat} {vs : List MV} {l l' : Loc}, setAll is vs l = some l' → is.length = vs.length
  | [], [], _, _, _ => rfl
  | [], _ :: _, _, _, h => nomatch h
  | _ :: _, [], _, _, h => nomatch h
  | _ :: is, _ :: vs, _, _, h => congrArg (· + 1) (setAll_len (is := is) (vs := vs) h)
theorem targets_each (env : Env) : ∀ (ts : List Expr), assignEach (ts.map asName) env = ts.map fun t => (false, assign (asName t) env)
  | [] => rfl
  | t :: ts => congrArg (List.cons (false, assign (asName t) env)) (targets_each env ts)
theorem targets_len {sc : SC} : ∀ {is : List Nat} {ts : List Expr}, targetsOk sc is ts = true → ts.length = is.length
  | [], ts, h => by rw [List.isEmpty_iff.mp h]; rfl
  | _ :: _, [], h => nomatch h
  | _ :: _, _ :: _, h => congrArg (· + 1) (targets_len (and_r (and_r h)))
theorem unpack_go {X : Fn Y} {R : MU} {E : Value → Shared → Prop} {Q : Unit → Shared → Prop} {loc' : Loc} : ∀ (ts : List Expr) (is : List Nat) (xs : List MV) (vs : List Value) (loc : Loc) (c : Cf), targetsOk X.sc is ts = true → StS X R loc c → VRs Y c.Z c.φ xs vs → setAll is xs loc = some loc' →
    (∀ c', StS X R loc' c' → StB c c' → c'.H = c.H → Q () c'.s) → wpAny Y.M X.A (assignInOrder (ts.map fun t => assign (asName t) X.env) vs) Q E c.s
  | [], [], [], _, _, c, _, S, hv, e, hQ => by cases hv; cases e; exact wpAny_pure (hQ c S (StB.refl c) rfl)
  | [], [], _ :: _, _, _, _, _, _, _, e, _ => nomatch e
  | [], _ :: _, _, _, _, _, h, _, _, _, _ => nomatch h
  | _ :: _, [], _, _, _, _, h, _, _, _, _ => nomatch h
  | _ :: _, _ :: _, [], _, _, _, _, _, _, e, _ => nomatch e
  | t :: ts, i :: is, x :: xs, _, _, c, h, S, ⟨v, vs, hv, h1, h2⟩, e, hQ => by
    subst hv
    exact wpAny_assignInOrder_more (wpAny_assign_Name (wp_store S (lv := .val x) (beq_iff_eq.mp (and_l (and_r h))) h1 newOk_val fun c₂ S₂ b₂ h₂ _ =>
      unpack_go ts is xs vs _ c₂ (and_r (and_r h)) S₂ (VRs.mono b₂.z b₂.p _ h2) e fun c' S' b' h' => hQ c' S' (b₂.trans b') (h'.trans h₂)))
theorem ss_unpack (is : List Nat) (me : ME) : SS Y (.unpack is me) := fun X R st loc c h S Q E g => by
  have h2 := and_r h
  have h3 := and_r h2
  have hk : isCallE (ex Y.T me (partsS st).b) = true ∨ isSubE (ex Y.T me (partsS st).b) = true := or_of (and_l h3)
  have hs : swapsWithSole [.Tuple ((parts (partsS st).a).xs.map asName) (parts (partsS st).a).n (parts (partsS st).a).p] (ex Y.T me (partsS st).b) (partsS st).p.line X.env = pure false ∧ swappedStores [.Tuple ((parts (partsS st).a).xs.map asName) (parts (partsS st).a).n (parts (partsS st).a).p] (ex Y.T me (partsS st).b) X.env = pure none := by
    revert hk
    generalize ex Y.T me (partsS st).b = v
    cases v <;> first | exact fun _ => ⟨rfl, rfl⟩ | exact fun h => h.elim (fun h => nomatch h) fun h => nomatch h
  refine Assign_Tuple (seqE S (soundE me X.toBlk _ loc c (and_l h2) S.ex) g fun c₁ u m S₁ s₁ r₁ g => ?_) hs.1 hs.2
  obtain ⟨loc', e, g₂⟩ := g.opt
  obtain ⟨xs, q, e₁⟩ := of_bind e
  cases MV.tup_of q
  obtain ⟨a, vs, rfl, hz, hvs, hn⟩ := r₁
  have ht := and_l h
  refine wpAny_assign_Tuple X.at_.h (S₁.K.isTup hz) (by rw [targets_each, List.length_map, targets_len ht, setAll_len e₁]; exact hvs.length.symm) (by rw [targets_each, List.findIdx?_map, List.findIdx?_eq_none_iff]; exact fun _ _ => rfl) fun h' hx => ?_
  have k2 := S₁.K.heap (h := h') c₁.s.toks fun b o e => hx b o (Nat.ne_of_lt (Heap.lt_size e)) e
  rw [targets_each, List.map_map]
  exact unpack_go _ is xs vs loc (c₁.heap h' c₁.s.toks) ht (S₁.step (Step.heap ..) k2) hvs e₁ fun c₂ S₂ b₂ h₂ => g₂.next c₂ loc' S₂ ((Step.heap c₁ h' _).toStB.trans b₂) (by rw [h₂]; rfl)
theorem log_lim {i : Int} (h : i.natAbs < intLim) : i.natAbs.log2 < 1920 := by
  by_cases h0 : i.natAbs = 0
  · rw [h0]; decide
  · have := (Nat.log2_lt h0 (k := 96)).mpr (by have : intLim = 2 ^ 96 := by decide
                                               omega)
    omega
theorem joins {B : Blk Y} {loc : Loc} {E : Value → Shared → Prop} {Q : Str → Shared → Prop} {H' : MH} : ∀ (vs : List Expr) (es : MEs) (acc : Str) (c : Cf) {rest : List MV}, okF Y.T B.sc vs es = true → Ex B loc c →
    evalEs Y.P B.cf es loc c.H = .ok rest H' → allInts rest = true → acc.length + 2000 * vs.length ≤ 2000000 → (∀ out c', out.length ≤ 2000000 → c'.Ok Y → Step c c' → c'.H = H' → Q out c'.s) →
    Joins Y.M B.A E (evalEach (exF Y.T vs es) B.env) acc Q c.s
  | [], .nil, acc, c, _, _, x, e, _, ha, q => by cases e; exact q acc c (Nat.le_trans (Nat.le_add_right _ _) ha) x.K (Step.refl c) rfl
  | [], .cons _ _, _, _, _, h, _, _, _, _, _ => nomatch h
  | v :: vs, es, acc, c, rest, h, x, e, hI, ha, q => by
    have ha : acc.length + 2000 * vs.length + 2000 ≤ 2000000 := ha
    unfold okF at h
    unfold exF
    by_cases hs : isStrC v = true
    · rw [if_pos hs] at h ⊢
      have hu : (parts v).s.length ≤ 1000 := of_decide_eq_true (and_l h)
      have hlen : (acc ++ (parts v).s).length = acc.length + (parts v).s.length := Str.length_append ..
      exact Constant_str ⟨_, _, rfl, line_ok (by omega), joins vs es (acc ++ (parts v).s) (c.heap c.s.heap (c.s.toks + 1)) (and_r h) (x.step (Step.heap c _ _) (x.K.heap _ fun _ _ e => e)) e hI (by omega) fun out c' h1 k s h2 => q out c' h1 k ((Step.heap c _ _).trans s) h2⟩
    · rw [if_neg hs] at h ⊢
      cases es with
      | nil => cases h
      | cons e' r =>
        have e0 : ((evalE Y.P B.cf e' loc c.H).bind fun v H => (evalEs Y.P B.cf r loc H).bind fun vs H => RS.ok (v :: vs) H) = .ok rest H' := e
        refine wpAny_FormattedValue_plain (soundE e' B _ loc c (and_l h) x _ _ ⟨fun z => (by rw [z] at e0; cases e0), fun c₁ v b k₁ s₁ e₁ r₁ => ?_, fun c₁ k e2 a C B' a0 _ _ e₁ _ => (by rw [e₁] at e0; cases e0)⟩)
        rw [e₁] at e0
        have e0 : ((evalEs Y.P B.cf r loc c₁.H).bind fun vs H => RS.ok (b :: vs) H) = .ok rest H' := e0
        cases e2 : evalEs Y.P B.cf r loc c₁.H with
        | bad => rw [e2] at e0; cases e0
        | ex _ _ => rw [e2] at e0; cases e0
        | ok ms Hm =>
          rw [e2] at e0
          cases e0
          obtain ⟨i, hi, hj⟩ := any_some (and_l hI)
          cases MV.int_of hi
          obtain ⟨t, rfl⟩ := r₁
          have hd := log_lim (of_decide_eq_true hj)
          have hlen : (acc ++ Str.ofString (toString i)).length = acc.length + (Str.ofString (toString i)).length := Str.length_append ..
          have hl := int_text_len_1921 hd
          exact wpAny_formatField_int hd ⟨_, _, rfl, line_ok (by omega), joins vs r (acc ++ Str.ofString (toString i)) (c₁.heap c₁.s.heap (c₁.s.toks + 1 + 1)) (and_r h) (x.step (s₁.trans (Step.heap c₁ _ _)) (k₁.heap _ fun _ _ e => e)) e2 (and_r hI) (by omega) fun out c' h1 k s h2 => q out c' h1 k (s₁.trans ((Step.heap c₁ _ _).trans s)) h2⟩
theorem joins_len (vs : List Expr) : ∀ (es : MEs) {sc : SC}, okF Y.T sc vs es = true → (exF Y.T vs es).length = vs.length := by
  induction vs with
  | nil => exact fun _ _ _ => rfl
  | cons v vs ih =>
    intro es sc h
    unfold okF at h
    unfold exF
    by_cases hs : isStrC v = true
    · rw [if_pos hs] at h ⊢; exact congrArg (· + 1) (ih es (and_r h))
    · rw [if_neg hs] at h ⊢
      cases es with
      | nil => cases h
      | cons e r => exact congrArg (· + 1) (ih r (and_r h))
theorem two_of {α : Type} {l : List α} (h : 2 ≤ l.length) : ∃ a b r, l = a :: b :: r := match l, h with
  | [], h => absurd h (by decide : ¬ 2 ≤ 0)
  | [_], h => absurd h (by decide : ¬ 2 ≤ 1)
  | a :: b :: r, _ => ⟨a, b, r, rfl⟩
theorem ss_raise (k : Nat) (es : MEs) : SS Y (.raise k es) := fun X R st loc c h S Q E g => by
  have h2 := and_r h
  have h3 := and_r h2
  have g : GoS X R (raiseM k (evalEs Y.P X.cf es loc c.H) loc) c Q E := g
  unfold raiseM at g
  cases ee : evalEs Y.P X.cf es loc c.H with
  | bad => rw [ee] at g; exact absurd rfl g.nb
  | ex _ _ => rw [ee] at g; exact absurd rfl g.nb
  | ok xs H' =>
  rw [ee] at g
  have hI : allInts xs = true := by
    cases hh : allInts xs with
    | true => rfl
    | false => simp only [hh] at g; exact absurd rfl g.nb
  simp only [hI, if_true] at g
  obtain ⟨C, hC, _⟩ := Y.X.exc _ k (gOk_of (and_l h)).2.1
  obtain ⟨nm, qn, N, bs, bm, hdct, sn, sub, ab, col, dd, k0, k1, k2, k3, k5, newId, B, initId, bmB, mN, F⟩ := Y.EX k C hC
  refine wpAny_Raise_call_subT (C := C) (nm := nm) (q := qn) (N := N) (bs := bs) (hdct := hdct) (sn := sn) (sub := sub) (ab := ab) (col := col) (dd := dd) (k0 := k0) (k1 := k1) (k2 := k2) (k3 := k3) (k5 := k5) F.base F.isExc X.at_.h rfl F.init (glob_exc X.V S.K (and_l h) fun C' e => ?_)
  cases hC.symm.trans e
  refine ⟨rfl, ?_⟩
  have hl := joins_len _ es (and_l h2)
  obtain ⟨v1, v2, rest, hv⟩ := two_of (hl ▸ of_decide_eq_true (and_l h3) : 2 ≤ (exF Y.T (parts (hd1 (parts (partsS st).a).xs)).xs es).length)
  refine evalArgs_plain (spliced_cons ?_)
  rw [hv]
  refine wpAny_JoinedStr (pos := (parts (hd1 (parts (partsS st).a).xs)).p) ?_
  rw [← hv]
  have h20 : (parts (hd1 (parts (partsS st).a).xs)).xs.length ≤ 20 := of_decide_eq_true (and_r h3)
  refine joins (B := X.toBlk) _ es Str.empty c (and_l h2) S.ex ee hI (Nat.le_trans (Nat.add_le_add_left (Nat.mul_le_mul_left 2000 h20) _) (by decide)) fun out c₁ h1 k₁ s₁ e₁ => ⟨line_ok (Nat.le_trans h1 (by decide)), spliced_nil ⟨rfl, line_ok (by decide : 1 ≤ 10000000), k₁.stays _ _ F.at_, F.ns.keeps k₁.stays, F.tail.keeps k₁.stays, fun h' e hx => g.exm k loc H' (.ref e) _ rfl ?_⟩⟩
  exact e₁ ▸ leaves_made (c := c₁.heap c₁.s.heap (c₁.s.toks + 1)) ((S.step s₁ k₁).step (Step.heap c₁ _ _) (k₁.heap _ fun _ _ e => e)) hC hx
end
end Mini
end
noncomputable section
namespace Mini
open PySem PySem.W PySem.Calls PyProof.Rows
section
variable {M : Model} {A : Around} {E : Value → Shared → Prop}
variable {nm q nm' q' : Str} {C N C' N' : Addr} {bs bm bs' bm' : List Value} {hdct hdct' : Bool} {sn sn' : List Str} {sub sub' : List Value} {ab ab' : Bool} {col col' : Option Bool} {dd dd' : Option Addr} {k0 k1 k2 k3 k5 l0 l1 l2 l3 l5 : Option Value} {newId newId' : String}
theorem exc_one {h : Heap} {g : Array GenState} {d : Drawn} {t : Nat} {os : OsState} {e : Addr} {oe : Obj} {Q : Bool → Shared → Prop}
    (hC : h.get? C = some (excClassObj nm q C N bs bm hdct sn sub ab col dd k0 k1 k2 k3 k5 newId)) (hC' : h.get? C' = some (excClassObj nm' q' C' N' bs' bm' hdct' sn' sub' ab' col' dd' l0 l1 l2 l3 l5 newId')) (he : h.get? e = some oe) (hcls : oe.cls = .ref C) (hbase : bm'.contains (.type "BaseException") = true)
    {b : Bool} (hb : (Value.ref C :: bm).contains (.ref C') = b) (hq : Q b ⟨h, g, d, t, os⟩) : wpAny M A (excMatches (.ref e) (.ref C')) Q E ⟨h, g, d, t, os⟩ := by
  have hcB : (Value.ref C' :: bm').contains (.type "BaseException") = true := by rw [List.contains_cons, hbase, Bool.or_true]
  have f := tc_notTuple
  unfold excMatches
  repeat (first | (with_reducible refine wpAny_loadPart_at he ?_; rw [hcls]) | with_reducible refine wpAny_loadPart_at hC' ?_ | (with_reducible refine wpAny_isSubtype_exc hC' ?_; rw [hcB]) | (with_reducible refine wpAny_isSubtype_exc hC ?_; rw [hb]) | wp_step)
  all_goals (cases b <;> (wp_walk; exact hq))
theorem exc_two {nm2 q2 : Str} {C2 N2 : Addr} {bs2 bm2 : List Value} {hdct2 : Bool} {sn2 : List Str} {sub2 : List Value} {ab2 : Bool} {col2 : Option Bool} {dd2 : Option Addr} {m0 m1 m2 m3 m5 : Option Value} {newId2 : String}
    {h : Heap} {g : Array GenState} {d : Drawn} {t : Nat} {os : OsState} {e tup : Addr} {oe : Obj} {Q : Bool → Shared → Prop} (ht : h.IsTuple tup #[.ref C', .ref C2])
    (hC : h.get? C = some (excClassObj nm q C N bs bm hdct sn sub ab col dd k0 k1 k2 k3 k5 newId)) (hC' : h.get? C' = some (excClassObj nm' q' C' N' bs' bm' hdct' sn' sub' ab' col' dd' l0 l1 l2 l3 l5 newId'))
    (hC2 : h.get? C2 = some (excClassObj nm2 q2 C2 N2 bs2 bm2 hdct2 sn2 sub2 ab2 col2 dd2 m0 m1 m2 m3 m5 newId2)) (he : h.get? e = some oe) (hcls : oe.cls = .ref C) (hbase : bm'.contains (.type "BaseException") = true) (hbase2 : bm2.contains (.type "BaseException") = true)
    {b b2 : Bool} (hb : (Value.ref C :: bm).contains (.ref C') = b) (hb2 : (Value.ref C :: bm).contains (.ref C2) = b2) (hq : Q (b || b2) ⟨h, g, d, t, os⟩) : wpAny M A (excMatches (.ref e) (.ref tup)) Q E ⟨h, g, d, t, os⟩ := by
  have hcB : (Value.ref C' :: bm').contains (.type "BaseException") = true := by rw [List.contains_cons, hbase, Bool.or_true]
  have hcB2 : (Value.ref C2 :: bm2).contains (.type "BaseException") = true := by rw [List.contains_cons, hbase2, Bool.or_true]
  have f := tc_notTuple
  obtain ⟨o, ho, hc, n, hd⟩ := ht
  unfold excMatches
  refine wpAny_bind (wpAny_isInstance ⟨o, ho, hc⟩ isSubtype_tuple_tuple ?_)
  dsimp only
  rw [if_pos rfl]
  refine wpAny_bind (wpAny_seqItems ho hd ?_)
  dsimp only [Option.getD_some, Option.getD]
  repeat (first | (with_reducible refine wpAny_loadPart_at he ?_; rw [hcls]) | with_reducible refine wpAny_loadPart_at hC' ?_ | with_reducible refine wpAny_loadPart_at hC2 ?_ | (with_reducible refine wpAny_isSubtype_exc hC' ?_; rw [hcB]) | (with_reducible refine wpAny_isSubtype_exc hC2 ?_; rw [hcB2]) | (with_reducible refine wpAny_isSubtype_exc hC ?_; rw [hb]) | wp_step)
  cases b with
  | true => wp_walk; exact hq
  | false =>
    repeat (first | (with_reducible refine wpAny_loadPart_at he ?_; rw [hcls]) | (with_reducible refine wpAny_isSubtype_exc hC ?_; rw [hb2]) | wp_step)
    cases b2 <;> (wp_walk; exact hq)
end
section
variable {Y : Sys} {X : Fn Y} {A' : Around} {R : MU} {loc : Loc} {c : Cf}
theorem flying_keeps {B h h' : Heap} {l : List Env} {e : Addr} {cls a0 : Value} (x : Heap.FlyingW B l e cls a0 h) (k : ∀ b o, h.get? b = some o → h'.get? b = some o) : Heap.FlyingW B l e cls a0 h' := by
  obtain ⟨f1, f2, f3, oe, vs, T', oT, ts, a1, a2, a3, a4, a5, a6, a7, a8, a9⟩ := x
  exact ⟨fun b o q => k b o (f1 b o q), f2, f3.of_keeps fun b o hb _ => ⟨o, k b o hb, rfl⟩, oe, vs, T', oT, ts, k _ _ a1, a2, a3, a4, a5, a6, k _ _ a7, a8, a9⟩
theorem wp_match (V : EnvOk X.env X.sc) {cs : List Nat} {t : Expr} {l : List Env} {a C : Addr} {a0 : Value} {k : Nat} {B : Heap} {E E' : Value → Shared → Prop} {Q : Bool → Shared → Prop} (K : c.Ok Y) (hn : okN Y.T X.sc cs t = true) (hC : Y.T.eadr[k]? = some C) (fl : Heap.FlyingW B l a (.ref C) a0 c.s.heap)
    (hQ : ∀ h' : Heap, (∀ b o, c.s.heap.get? b = some o → h'.get? b = some o) → Heap.FlyingW B l a (.ref C) a0 h' → Q (cs.any (Y.P.sub k)) { c.s with heap := h' }) :
    wpAny Y.M A' (eval (exN cs t) X.env) (fun cv s₁ => wpAny Y.M A' (excMatches (.ref a) cv) Q E' s₁) E c.s := by
  obtain ⟨nm, q, N, bs, bm, hdct, sn, sub, ab, col, dd, k0, k1, k2, k3, k5, newId, Bn, initId, bmB, mN, F⟩ := Y.EX k C hC
  match cs, hn, hQ with
  | [], hn, _ => cases hn
  | [d], hn, hQ =>
    refine glob_exc V K hn fun D hD => ?_
    obtain ⟨nm', q', N', bs', bm', hdct', sn', sub', ab', col', dd', l0, l1, l2, l3, l5, newId', Bn', initId', bmB', mN', F'⟩ := Y.EX d D hD
    obtain ⟨oe, he, hcls⟩ := fl.there
    exact exc_one (g := c.s.gens) (d := c.s.drawn) (t := c.s.toks) (os := c.s.os) (K.stays _ _ F.at_) (K.stays _ _ F'.at_) he hcls F'.isExc (F.sub d D hD) (by
      have := hQ c.s.heap (fun _ _ h => h) fl
      rw [show [d].any (Y.P.sub k) = Y.P.sub k d from Bool.or_false _] at this
      exact this)
  | [d, d'], hn, hQ =>
    show wpAny _ A' (standAt _ >>= fun _ => spliced (backTo _ (starEach [asName _, asName _] X.env)) >>= fun vs => newTuple vs) _ _ _
    refine wpAny_bind (wpAny_standAt (wpAny_bind ?_))
    rw [backTo_cons (acc_star _), backTo_cons (acc_star _)]
    refine spliced_cons (glob_exc V K (and_l hn) fun D hD => spliced_cons (glob_exc V K (and_r hn) fun D2 hD2 => spliced_nil ?_))
    refine wpAny_newTuple ?_ (line_ok (by decide : 2 ≤ 10000000))
    have kp : ∀ b o, c.s.heap.get? b = some o → (c.s.heap.push (tupOf #[.ref D, .ref D2])).get? b = some o := fun _ _ e => Heap.get?_push_of_some _ e
    have fl' := flying_keeps fl kp
    obtain ⟨nm', q', N', bs', bm', hdct', sn', sub', ab', col', dd', l0, l1, l2, l3, l5, newId', Bn', initId', bmB', mN', F'⟩ := Y.EX d D hD
    obtain ⟨nm2, q2, N2, bs2, bm2, hdct2, sn2, sub2, ab2, col2, dd2, m0, m1, m2, m3, m5, newId2, Bn2, initId2, bmB2, mN2, F2⟩ := Y.EX d' D2 hD2
    obtain ⟨oe, he, hcls⟩ := fl'.there
    refine exc_two (g := c.s.gens) (d := c.s.drawn) (t := c.s.toks) (os := c.s.os) (h := c.s.heap.push (tupOf #[.ref D, .ref D2])) ⟨_, Heap.get?_push_size _ rfl, rfl, 0, rfl⟩ (kp _ _ (K.stays _ _ F.at_)) (kp _ _ (K.stays _ _ F'.at_)) (kp _ _ (K.stays _ _ F2.at_)) he hcls F'.isExc F2.isExc (F.sub d D hD) (F.sub d' D2 hD2) ?_
    have := hQ _ kp fl'
    rw [show [d, d'].any (Y.P.sub k) = (Y.P.sub k d || Y.P.sub k d') from by rw [List.any_cons, List.any_cons, List.any_nil, Bool.or_false]] at this
    exact this
  | _ :: _ :: _ :: _, hn, _ => cases hn
theorem Go.mkOk {l : List Env} {m : MV} {Q : Value → Shared → Prop} {E : Value → Shared → Prop} (q : ∀ c' v, c'.Ok Y → Step c c' → c'.H = c.H → VR Y c'.Z c'.φ m v → Q v c'.s) : Go Y l (VRc Y) (.ok m c.H) c Q E :=
  ⟨fun z => (nomatch z), fun c' v b k s e r => (by injection e with e1 e2; subst e1; exact q c' v k s e2.symm r), fun _ _ _ _ _ _ _ _ _ z => (nomatch z)⟩
theorem Go.later {l : List Env} {m : MV} {Q : Value → Shared → Prop} {E : Value → Shared → Prop} {c' : Cf} (g : Go Y l (VRc Y) (.ok m c.H) c Q E) (s : Step c c') (e : c'.H = c.H) : Go Y l (VRc Y) (.ok m c'.H) c' Q E :=
  Go.mkOk fun c₂ v k t h r => g.ok c₂ v m k (s.trans t) (by rw [h, e]) r
theorem soundHE {l : List Env} : ∀ (he : HE) (e : Expr) (c : Cf) (m : MV), okHE X.sc he e = true → c.Ok Y → LocR Y X.env X.sc loc c → evalH he loc = some m → Wk Y A' l (eval (exHE he e) X.env) (VRc Y) (.ok m c.H) c
  | .none, _, _, _, _, K, _, q => fun Q E g => by cases q; exact wpAny_Constant_none (g.here K rfl)
  | .tt, _, _, _, _, K, _, q => fun Q E g => by cases q; exact wpAny_Constant_bool (g.here K rfl)
  | .ff, _, _, _, _, K, _, q => fun Q E g => by cases q; exact wpAny_Constant_bool (g.here K rfl)
  | .int i, _, _, _, _, K, _, q => fun Q E g => by cases q; exact wpAny_Constant_int (g.tok K _ ⟨_, rfl⟩)
  | .neg i, _, _, _, _, K, _, q => fun Q E g => by cases q; exact wpAny_UnaryOp (wpAny_Constant_int (neg_int (g.tok K _ ⟨_, rfl⟩)))
  | .var i, _, _, _, h, K, L, q => fun Q E g => eval_slot X.V K L (beq_iff_eq.mp h) (LV.val_of q) (fun z => nomatch z) fun _ _ hv => g.here K hv
  | .notv i, _, _, _, h, K, L, q => fun Q E g => by
    obtain ⟨v, q1, q2⟩ := of_bind q
    obtain ⟨b, q3, rfl⟩ := Option.map_eq_some_iff.mp q2
    cases MV.bool_of q3
    exact wpAny_UnaryOp (eval_slot X.V K L (beq_iff_eq.mp h) (LV.val_of q1) (fun z => nomatch z) fun r _ hv => by
      have hv : r = .bool b := hv
      subst hv
      exact not_of (wpAny_truthy_bool (g.here K rfl)))
  | .pair a b, e, c, _, h, K, L, q => fun Q E g => by
    obtain ⟨va, q1, q2⟩ := of_bind q
    obtain ⟨vb, q3, rfl⟩ := Option.map_eq_some_iff.mp q2
    show wpAny _ A' (standAt _ >>= fun _ => spliced (backTo _ (starEach [_, _] X.env)) >>= fun vs => newTuple vs) _ _ _
    refine wpAny_bind (wpAny_standAt (wpAny_bind ?_))
    rw [backTo_cons (and_r (and_l h)), backTo_cons (and_r (and_r h))]
    refine spliced_cons (soundHE (l := l) a _ c va (and_l (and_l h)) K L q1 _ _ (Go.mkOk fun c₁ u k₁ s₁ e₁ r₁ => spliced_cons (soundHE (l := l) b _ c₁ vb (and_l (and_r h)) k₁ (L.step s₁) q3 _ _ (Go.mkOk fun c₂ u' k₂ s₂ e₂ r₂ => spliced_nil ?_))))
    have g₂ := g.later (s₁.trans s₂) (e₂.trans e₁)
    exact wpAny_newTuple (g₂.tup (vs := [u, u']) k₂ _ (Heap.get?_push_size _ rfl) (k₂.free (Nat.le_refl _)) (fun _ _ _ e => Heap.get?_push_of_some _ e) ⟨u, [u'], rfl, VR.mono s₂.z s₂.p _ r₁, u', [], rfl, r₂, rfl⟩ (by decide : 2 ≤ 10000000)) (line_ok (by decide : 2 ≤ 10000000))
end
end Mini
end
noncomputable section
namespace Mini
open PySem PySem.W PySem.Calls PyProof.Rows
section
variable {Y : Sys} {X : Fn Y} {A' : Around} {R : MU}
theorem wp_storeA {loc : Loc} {c : Cf} (S : StS X R loc c) {x : Str} {i : Nat} {v : Value} {m : MV} {E : Value → Shared → Prop} {Q : Unit → Shared → Prop} (hx : X.sc.own x = some i) (hv : VR Y c.Z c.φ m v)
    (h : ∀ c', StS X R (loc.set i (.val m)) c' → StB c c' → c'.H = c.H → Q () c'.s) : wpAny Y.M A' (storeName X.env x v) Q E c.s :=
  wp_store S (lv := .val m) hx hv newOk_val fun c' S' b e _ => h c' S' b e
theorem soundH : ∀ (hs : List HS) (xs : List Stmt) (loc : Loc) (c : Cf), okH X.sc hs xs = true → StS X R loc c → ∀ Q E, GoS X R (execH hs loc c.H) c Q E → wpAny Y.M A' (execs (exH hs xs) X.env) Q E c.s
  | [], _, loc, c, _, S => fun _ _ g => wpAny_execs_nil (g.here S)
  | .bad :: _, _, _, _, _, _ => fun _ _ g => absurd rfl g.nb
  | .brk :: _, _, loc, c, _, S => fun _ _ g => wpAny_execs_cons (wpAny_Break (g.brk c loc S (StB.refl c) rfl))
  | .ret he :: _, _, loc, c, h, S => fun Q E g => by
    obtain ⟨v, q, g⟩ := GoS.opt (o := evalH he loc) g
    exact wpAny_execs_cons (wpAny_Return_some (soundHE (l := []) he _ c v (and_l h) S.K S.L q _ _ (Go.mkOk fun c₁ u k₁ s₁ e₁ r₁ => g.ret c₁ u v k₁ (S.out s₁) (by rw [e₁]) r₁)))
  | .assign i he :: r, xs, loc, c, h, S => fun Q E g => by
    obtain ⟨v, q, g⟩ := GoS.opt (o := evalH he loc) g
    have h1 := and_l h
    refine wpAny_execs_cons (wpAny_Assign_Name (soundHE (l := []) he _ c v (and_l (and_r h1)) S.K S.L q _ _ (Go.mkOk fun c₁ u k₁ s₁ e₁ r₁ => wp_storeA (S.step s₁ k₁) (beq_iff_eq.mp (and_l h1)) r₁ fun c₂ S₂ b₂ h₂ => ?_)) (noComp_plain (and_r (and_r h1)) _ _ _))
    exact soundH r xs.tail _ c₂ (and_r h) S₂ Q E (g.at (s₁.toStB.trans b₂) (by rw [h₂, e₁]))
noncomputable def NoEx (r : SR) : Prop := (∀ k l H, r ≠ .exm k l H) ∧ ∀ k l H, r ≠ .exf k l H
theorem execH_noEx : ∀ (hs : List HS) (loc : Loc) (H : MH), NoEx (execH hs loc H)
  | [], _, _ => ⟨fun _ _ _ h => (nomatch h), fun _ _ _ h => (nomatch h)⟩
  | .bad :: _, _, _ => ⟨fun _ _ _ h => (nomatch h), fun _ _ _ h => (nomatch h)⟩
  | .brk :: _, _, _ => ⟨fun _ _ _ h => (nomatch h), fun _ _ _ h => (nomatch h)⟩
  | .ret he :: _, loc, H => by
    show NoEx (optS (evalH he loc) fun v => SR.ret v H)
    cases evalH he loc <;> exact ⟨fun _ _ _ h => (nomatch h), fun _ _ _ h => (nomatch h)⟩
  | .assign i he :: r, loc, H => by
    show NoEx (optS (evalH he loc) fun v => execH r (loc.set i (.val v)) H)
    cases evalH he loc with
    | none => exact ⟨fun _ _ _ h => (nomatch h), fun _ _ _ h => (nomatch h)⟩
    | some v => exact execH_noEx r _ H
theorem GoS.swap {r : SR} {c : Cf} {Q : Flow → Shared → Prop} {E E' : Value → Shared → Prop} (g : GoS X R r c Q E) (h : NoEx r) : GoS X R r c Q E' :=
  ⟨g.nb, g.next, g.brk, g.ret, fun k l H _ _ q => absurd q (h.1 k l H), fun _ l k _ _ _ _ _ _ _ q => absurd q (h.2 k l _)⟩
theorem StS.heap {loc : Loc} {c : Cf} (S : StS X R loc c) {h : Heap} {tk : Nat} (k : (c.heap h tk).Ok Y) : StS X R loc (c.heap h tk) := S.step (Step.heap c h tk) k
theorem soundHs {E : Value → Shared → Prop} {a C : Addr} {a0 : Value} {k : Nat} {B : Heap} (hC : Y.T.eadr[k]? = some C) : ∀ (hs : MHs) (xs : List ExceptHandler) (loc : Loc) (c : Cf), okHs Y.T X.sc hs xs = true → StS X R loc c → Heap.FlyingW B X.l a (.ref C) a0 c.s.heap → Holds B c →
    ∀ Q E', GoS X R (execHs Y.P k hs loc c.H) c Q E' → wpAny Y.M X.A (handleBy (.ref a) X.env (exHs Y.T hs xs)) Q E c.s
  | .nil, _, _, _, _, _, _, _ => fun _ _ g => absurd rfl g.nb
  | .cons cs b r, xs, loc, c, h, S, fl, ho => fun Q E' g => by
    have h2 := and_r h
    have h3 := and_r h2
    have g : GoS X R (if cs.any (Y.P.sub k) then execH b loc c.H else execHs Y.P k r loc c.H) c Q E' := g
    obtain ⟨h0, b, rfl⟩ : ∃ h0 b', b = h0 :: b' := match b, not_t (and_l h3) with | x :: y, _ => ⟨x, y, rfl⟩
    refine wpAny_handleBy_cons (codeAny_handlers_test (wp_match X.V S.K (and_l h) hC fl fun h' kp fl' => ?_)) (by intro q; cases q)
    have k₁ := S.K.heap (h := h') c.s.toks kp
    have S₁ := S.heap k₁
    cases hq : cs.any (Y.P.sub k) with
    | true =>
      rw [hq, if_pos rfl] at g
      simp only [if_true]
      refine codeAny_handlers_suite (lands_againW (s := { c.s with heap := h' }) fl' fun h₂ fl₂ us => ?_)
      have k₂ := Cf.Ok.flew (c := c.heap h' c.s.toks) k₁ ⟨ho.z, ho.m⟩ fl₂.1 us
      exact soundH (h0 :: b) _ loc ((c.heap h' c.s.toks).heap h₂ c.s.toks) (and_l h2) (S₁.heap k₂) Q _ ((g.at ((Step.heap c h' c.s.toks).trans (Step.heap (c.heap h' c.s.toks) h₂ c.s.toks)).toStB rfl).swap (execH_noEx _ _ _))
    | false =>
      rw [hq, if_neg (by decide)] at g
      simp only [Bool.false_eq_true, if_false]
      exact soundHs hC r xs.tail loc (c.heap h' c.s.toks) (and_r h3) S₁ fl' ⟨ho.z, ho.m⟩ Q E' (g.at (Step.heap c h' c.s.toks).toStB rfl)
end
end Mini
end
noncomputable section
namespace Mini
open PySem PySem.W PySem.Calls PyProof.Rows
noncomputable def SSs (Y : Sys) (b : MSs) : Prop := ∀ (X : Fn Y) (R : MU) (xs : List Stmt) (loc : Loc) (c : Cf), okSs Y.T X.sc b xs = true → StS X R loc c → WS X R (execs (exSs Y.T b xs) X.env) (execSs Y.P X.cf b loc c.H) c
section
variable {Y : Sys} {X : Fn Y} {R : MU}
theorem ss_ife (t : MT) (a b : MSs) (ha : SSs Y a) (hb : SSs Y b) : SS Y (.ife t a b) := fun X R st loc c h S Q E g =>
  wpAny_If (seqE S (soundT t X.toBlk _ loc c (and_l h) S.ex) g fun c₁ v b' S₁ s₁ r₁ g => match v, b', r₁, g with
    | true, _, rfl, g => ha X R _ loc c₁ (and_l (and_r h)) S₁ Q E g
    | false, _, rfl, g => hb X R _ loc c₁ (and_r (and_r h)) S₁ Q E g)
theorem sss_nil : SSs Y .nil := fun X R xs loc c h S Q E g => wpAny_execs_nil (g.here S)
theorem GoS.seq {r : SR} {f : Loc → MH → SR} {c : Cf} {Q : Flow → Shared → Prop} {E : Value → Shared → Prop} {W : Shared → Prop} (g : GoS X R (r.then f) c Q E) (k : ∀ c' l, StS X R l c' → GoS X R (f l c'.H) c' Q E → W c'.s) :
    GoS X R r c (fun fl s => match fl with | .next => W s | fl => Q fl s) E :=
  ⟨fun e => g.nb (by rw [e]; rfl), fun c' l S b e => k c' l S (g.at b (by rw [e]; rfl)), fun c' l S b e => g.brk c' l S b (by rw [e]; rfl), fun c' v m k s e => g.ret c' v m k s (by rw [e]; rfl), fun k l H e s q => g.exm k l H e s (by rw [q]; rfl), fun c' l k e a C B a0 S b q => g.exf c' l k e a C B a0 S b (by rw [q]; rfl)⟩
theorem isFreeze_of {s : MS} (h : s.isFreeze = true) : ∃ i, s = .freeze i := by cases s <;> first | exact ⟨_, rfl⟩ | cases h
theorem sss_cons (s : MS) (r : MSs) (hs : s.isFreeze = false → SS Y s) (hr : SSs Y r) : SSs Y (.cons s r) := fun X R xs loc c h S Q E g => by
  unfold okSs at h
  show wpAny _ _ (execs (if s.isFreeze then exSs Y.T r xs else exS Y.T s (xs.headD default) :: exSs Y.T r xs.tail) X.env) _ _ _
  cases hf : s.isFreeze with
  | true =>
    obtain ⟨i, rfl⟩ := isFreeze_of hf
    rw [hf, if_pos rfl] at h
    rw [if_pos rfl]
    obtain ⟨p, hp, hq⟩ := List.any_eq_true.mp (and_l h)
    have g : GoS X R ((optS (lget loc i).acc? fun vs => SR.next (loc.set i (.val (.list vs))) c.H).then fun l H => execSs Y.P X.cf r l H) c Q E := g
    cases ha : (lget loc i).acc? with
    | none => rw [ha] at g; exact absurd rfl g.nb
    | some vs =>
      rw [ha] at g
      obtain ⟨c₁, e1, e2, b, S₁⟩ := S.frozen (beq_iff_eq.mp (and_r hq)) (LV.acc_of ha)
      exact e1 ▸ hr X R xs _ c₁ (and_r h) S₁ Q E (g.at b (by rw [e2]; rfl))
  | false =>
    rw [hf, if_neg (by decide)] at h
    rw [if_neg (by decide)]
    exact wpAny_execs_cons (hs hf X R _ loc c (and_l h) S _ E (GoS.seq (r := execS Y.P X.cf s loc c.H) g fun c' l S' g' => hr X R _ l c' (and_r h) S' Q E g'))
end
end Mini
end
noncomputable section
namespace Mini
open PySem PySem.W PySem.Calls PyProof.Rows
section
variable {Y : Sys} {X : Fn Y} {R : MU}
theorem leaves_pass {k : Nat} {H : MH} {e : Value} {s : Shared} {E : Value → Shared → Prop} (h : Leaves X k H e s) (hE : ∀ e s, Leaves X k H e s → E e s) : notedBy Y.M X.A X.env (cameBackBy Y.M X.A X.env E) e s := by
  have := PassesOwn.leaving (M := Y.M) (A := X.A) (env := X.env) (Q₁ := fun e s => OutX X k H e s) (E₁ := fun _ _ => False) e s h
  exact wpAny_mono this (fun _ _ h => wpAny_mono h (fun _ _ h => hE _ _ h) fun _ _ h => hE _ _ h) fun _ _ h => wpAny_mono h (fun _ _ h => hE _ _ h) fun _ _ h => hE _ _ h
theorem GoS.turn {r : SR} {f : Loc → MH → SR} {c : Cf} {Q : Flow → Shared → Prop} {E E' : Value → Shared → Prop} {W : Shared → Prop} {R' : MU} (g : GoS X R (r.turn f) c Q E) (hE : ∀ k l H e s, r = .exm k l H → Leaves X k H e s → E' e s)
    (k : ∀ c' l, StS X R' l c' → StB c c' → GoS X R (f l c'.H) c' Q E → W c'.s) (kb : ∀ c' l, StS X R' l c' → StS X R l c') :
    GoS X R' r c (fun fl s => match fl with | .next => W s | .cont => W s | .brk => Q .next s | .ret v => Q (.ret v) s) E' :=
  ⟨fun e => g.nb (by rw [e]; rfl), fun c' l S b e => k c' l S b (g.at b (by rw [e]; rfl)), fun c' l S b e => g.next c' l (kb c' l S) b (by rw [e]; rfl), fun c' v m k s e => g.ret c' v m k s (by rw [e]; rfl), hE, fun c' l k e a C B a0 S b q => absurd (by rw [q]; rfl) g.nb⟩
theorem GoS.okW {r : RS Bool} {f : Bool → MH → SR} {c : Cf} {Q : Flow → Shared → Prop} {E E' : Value → Shared → Prop} {Q' : Bool → Shared → Prop} {loc : Loc} (S : StS X R loc c) (g : GoS X R (okW r f) c Q E) (k : ∀ c' b, StS X R loc c' → Step c c' → GoS X R (f b c'.H) c' Q E → Q' b c'.s) : Go Y X.l Bc r c Q' E' :=
  ⟨fun e => g.nb (by rw [e]; rfl), fun c' v b o s e q => (by cases q; exact k c' v (S.step s o) s (g.at s.toStB (by rw [e]; rfl))), fun c' k e a C B a0 _ _ q => absurd (by rw [q]; rfl) g.nb⟩
theorem ss_whil (n : Nat) (t : MT) (b : MSs) (hb : SSs Y b) : SS Y (.whil n t b) := fun X R st loc c h S Q E g => by
  refine wpAny_While (codeAny_whileLoop (fun k s => ∃ c' loc', c'.s = s ∧ StS X R loc' c' ∧ GoS X R (whileM (evalT Y.P X.cf t) (execSs Y.P X.cf b) k loc' c'.H) c' Q E) (fun k s hI => ?_) n ⟨c, loc, rfl, S, g⟩)
  obtain ⟨c₁, loc₁, rfl, S₁, g₁⟩ := hI
  cases k with
  | zero => exact absurd rfl g₁.nb
  | succ k =>
    refine soundT t X.toBlk _ loc₁ c₁ (and_l h) S₁.ex _ _ (GoS.okW S₁ g₁ fun c₂ v S₂ s₂ g₂ => ?_)
    cases v with
    | false => exact wpAny_execs_nil (g₂.here S₂)
    | true => exact hb X R _ loc₁ c₂ (and_r h) S₂ _ _ (GoS.turn (r := execSs Y.P X.cf b loc₁ c₂.H) g₂ (fun kk l H e s q hl => leaves_pass hl fun e s h => g₂.exm kk l H e s (by rw [q]; rfl) h) (fun c₃ l S₃ b₃ g₃ => ⟨k, Nat.lt_succ_self _, c₃, l, rfl, S₃, g₃⟩) fun _ _ S => S)
theorem ss_tryy (b : MSs) (hs : MHs) (hb : SSs Y b) : SS Y (.tryy b hs) := fun X R st loc c h S Q E g => by
  have h2 := and_r h
  cases hs with
  | nil => cases not_t (and_r h2)
  | cons cs bb r =>
  have g : GoS X R ((execSs Y.P X.cf b loc c.H).catch fun k l H => execHs Y.P k (.cons cs bb r) l H) c Q E := g
  refine wpAny_Try_except (hb X R _ loc c (and_l h) S _ _ ⟨fun e => g.nb (by rw [e]; rfl), fun c' l S' b' e => wpAny_execs_nil (g.next c' l S' b' (by rw [e]; rfl)), fun c' l S' b' e => g.brk c' l S' b' (by rw [e]; rfl), fun c' v m k s e => g.ret c' v m k s (by rw [e]; rfl),
    fun k l H e s q => absurd (by rw [q]; rfl) g.nb, fun c₁ l₁ k e a C B a0 S₁ b₁ e₁ fl => ?_⟩)
  obtain ⟨rfl, hC, fly, hz, hm⟩ := fl
  have g₁ : GoS X R (execHs Y.P k (.cons cs bb r) l₁ c₁.H) c₁ Q E := g.at b₁ (by rw [e₁]; rfl)
  rw [X.el] at fly
  refine wpAny_looks_onW (X.at_.fr.trans (congrArg some X.el)) X.fr fly fun h₁ held us₁ => ?_
  refine wpAny_landsW held fun h₂ fly₂ us₂ => ?_
  have k₂ := S₁.K.flew ⟨hz, hm⟩ fly₂.1 (us₁.trans us₂)
  exact soundHs hC (.cons cs bb r) _ l₁ (c₁.heap h₂ c₁.s.toks) (and_l h2) (S₁.heap k₂) (X.el.symm ▸ fly₂) ⟨hz, hm⟩ Q E (g₁.at (Step.heap c₁ h₂ _).toStB rfl)
end
end Mini
end
noncomputable section
namespace Mini
open PySem PySem.W PySem.Calls PyProof.Rows
section
variable {Y : Sys} {X : Fn Y} {R : MU} {loc : Loc} {c : Cf}
theorem StS.hold (S : StS X R loc c) {it : Addr} {o : Obj} (hm : c.Mu it = some (.ex o)) (hl : ∀ vs n, o ≠ listOf vs n) (hR : R it = none) : StS X (upd R it (some (.ex o))) loc c := by
  refine ⟨S.K, S.base, fun a x e => (upd_ne (ne_none hR (S.ext a x e))).trans (S.ext a x e), fun a x e => ?_, ?_, S.own, fun z hz => ?_, S.L, fun x i l a hx hq hs => ?_⟩
  · rcases upd_cases e with ⟨rfl, q⟩ | ⟨_, q⟩
    · cases q; exact ⟨_, hm, fun _ => rfl⟩
    · exact S.keep a x q
  · obtain ⟨m, h⟩ := S.own
    exact (upd_ne (ne_mu hm h fun q => nomatch q)).trans S.ownR
  · obtain ⟨a, v, h1, h2, h3⟩ := S.cel z hz
    exact ⟨a, v, h1, h2, (upd_ne (ne_mu hm h2 fun q => nomatch q)).trans h3⟩
  · obtain ⟨h1, h2⟩ := S.acc x i l a hx hq hs
    obtain ⟨a', vs', n', g1, g2, _⟩ := S.acc_at hx hq
    cases g1.fun hs
    exact ⟨(upd_ne (ne_mu hm g2 fun q => hl _ _ (by injection q))).trans h1, h2⟩
theorem StS.letgo {it : Addr} {o : Obj} (hR : R it = none) (hext : ∀ a x, X.c₀.Mu a = some x → R a = some x) (S : StS X (upd R it (some (.ex o))) loc c) : StS X R loc c ∧ c.Mu it = some (.ex o) := by
  have no : ∀ {a}, upd R it (some (.ex o)) a = none → R a = none := fun h => (upd_cases h).elim (fun q => nomatch q.2) (·.2)
  refine ⟨⟨S.K, S.base, hext, fun a x e => S.keep a x ((upd_ne (ne_none hR e)).trans e), no S.ownR, S.own, fun z hz => ?_, S.L, fun x i l a hx hl hs => ?_⟩, S.keepN rfl (upd_self ..)⟩
  · obtain ⟨a, v, h1, h2, h3⟩ := S.cel z hz; exact ⟨a, v, h1, h2, no h3⟩
  · obtain ⟨h1, h2⟩ := S.acc x i l a hx hl hs; exact ⟨no h1, h2⟩
structure ForI (X : Fn Y) (R : MU) (i : Nat) (b : MSs) (Q : Flow → Shared → Prop) (E : Value → Shared → Prop) (ia : Addr) (rest : List MV) (c' : Cf) (loc' : Loc) (o : Obj) : Prop where
  S : StS X R loc' c'
  it : Iter Y c' ia rest o
  g : GoS X R (forM i (execSs Y.P X.cf b) rest loc' c'.H) c' Q E
theorem ss_forr (i : Nat) (it : MI) (b : MSs) (hb : SSs Y b) : SS Y (.forr i it b) := fun X R st loc c h S Q E g => by
  have h2 := and_r h
  have hx := own_of (and_l h)
  refine wpAny_For ((soundI it).run X.toBlk _ loc c (and_l h2) S.ex _ E ⟨fun e => g.nb (by show toS _ _ _ = _; rw [show evalI Y.P X.cf it loc c.H = .bad from e]; rfl), fun c₁ itv vs k₁ s₁ e₁ r₁ => ?_, fun c' k e a C B a0 o s e' fl => g.exf c' loc k e a C B a0 (S.step s o) s.toStB (by show toS _ _ _ = _; rw [show evalI Y.P X.cf it loc c.H = _ from e']; rfl) fl⟩) ((soundI it).plain _ _ _ · (and_l h2))
  obtain ⟨ia, o, rfl, i₁, n₁⟩ := r₁
  have S₁ := S.step s₁ k₁
  have hRi := S.free n₁
  have hext := S.ext
  refine codeAny_forLoop (fun k s => ∃ rest c' loc' o, (rest : List MV).length = k ∧ c'.s = s ∧ ForI X R i b Q E ia rest c' loc' o) (fun k s hI => ?_) vs.length ⟨vs, c₁, loc, o, rfl, rfl, S₁, i₁, g.at s₁.toStB (by show toS _ _ _ = _; rw [show evalI Y.P X.cf it loc c.H = _ from e₁]; rfl)⟩
  obtain ⟨rest, c₂, loc₂, o, rfl, rfl, I⟩ := hI
  have ne : ∀ {vs n}, c₂.Mu ia ≠ some (.ex (listOf vs n)) := fun q => I.it.o.notL (by injection I.it.mu.symm.trans q with q; injection q)
  cases rest with
  | nil =>
    refine wp_next_end I.S.K I.it X.at_.h fun hp k' => wpAny_execs_nil ?_
    have S₃ := I.S.off (c' := c₂.setM ia none hp c₂.s.toks) k' ⟨ZLe.refl, PLe.refl, rfl⟩ hRi (fun b hb => Cf.setM_ne hb) (let ⟨_, h⟩ := I.S.own; fr_ne_ex I.it.mu h) (fun v e => nomatch I.it.mu.symm.trans e) (fun v e => nomatch (Cf.setM_m ..).symm.trans e) fun _ _ => ne
    exact I.g.next _ loc₂ S₃ ⟨ZLe.refl, PLe.refl, rfl⟩ rfl
  | cons v rest =>
    refine wp_next I.S.K I.it fun rv o' hp tk k₃ hr i₃ => ?_
    have i₃' : ItO Y (c₂.setM ia (some (.ex o')) hp tk) o' rest := ItO.mono (c := c₂) ⟨ZLe.refl, PLe.refl, rfl⟩ i₃
    have b₃ : StB c₂ (c₂.setM ia (some (.ex o')) hp tk) := ⟨ZLe.refl, PLe.refl, rfl⟩
    have S₃ := I.S.off (c' := c₂.setM ia (some (.ex o')) hp tk) k₃ b₃ hRi (fun b hb => Cf.setM_ne hb) (let ⟨_, h⟩ := I.S.own; fr_ne_ex I.it.mu h) (fun v e => nomatch I.it.mu.symm.trans e) (fun v e => nomatch (Cf.setM_m ..).symm.trans e) fun _ _ => ne
    have S₄ := S₃.hold (Cf.setM_m ..) (fun _ _ => i₃.notL) hRi
    refine wpAny_assign_Name (wp_store S₄ (lv := .val v) hx hr newOk_val fun c₄ S₅ b₅ h₅ _ => ?_)
    have g₄ : GoS X R ((execSs Y.P X.cf b (loc₂.set i (.val v)) c₄.H).turn fun l H => forM i (execSs Y.P X.cf b) rest l H) c₄ Q E := I.g.at (b₃.trans b₅) (by rw [h₅]; rfl)
    refine hb X (upd R ia (some (.ex o'))) _ _ c₄ (and_r h2) S₅ _ _ (GoS.turn g₄ (fun kk l H e s q hl => leaves_pass hl fun e s h => g₄.exm kk l H e s (by rw [q]; rfl) h) (fun c₅ l S₆ b₆ g₅ => ?_) fun c₅ l S₆ => (S₆.letgo hRi hext).1)
    have p := S₆.letgo hRi hext
    exact ⟨rest.length, Nat.lt_succ_self _, rest, c₅, l, o', rfl, rfl, p.1, ⟨p.2, i₃'.mono (b₅.trans b₆)⟩, g₅⟩
end
end Mini
end
noncomputable section
namespace Mini
open PySem PySem.W PySem.Calls PyProof.Rows
variable {Y : Sys}
theorem soundSs (b : MSs) : SSs Y b :=
  @MSs.rec (fun s => s.isFreeze = false → SS Y s) (SSs Y) (fun _ => True) (fun _ => ss_bad) (fun i e _ => ss_assign i e) (fun is e _ => ss_unpack is e) (fun e f v _ => ss_setAttr e f v) (fun e f v _ => ss_setKey e f v) (fun i ks es _ => ss_dictNew i ks es) (fun i o e _ => ss_aug i o e) (fun i es _ => ss_accNew i es) (fun i e _ => ss_accCopy i e) (fun i e _ => ss_accApp i e) (fun _ h => nomatch h) (fun e _ => ss_expr e)
    (fun t a b ha hb _ => ss_ife t a b ha hb) (fun n t b hb _ => ss_whil n t b hb) (fun i it b hb _ => ss_forr i it b hb) (fun e _ => ss_ret e) (fun _ => ss_brk) (fun k es _ => ss_raise k es) (fun b hs hb _ _ => ss_tryy b hs hb) sss_nil sss_cons trivial (fun _ _ _ _ => trivial) b
end Mini
end
noncomputable section
namespace Mini
open PySem PySem.W PySem.Calls PyProof.Rows
theorem zip_lookup : ∀ {ns : List Str} {vs : List Value} {x : Str}, ns.length = vs.length → x ∈ ns → ∃ v, (ns.zip vs).lookup x = some v
  | [], _, _, _, h => nomatch h
  | n :: ns, [], _, h, _ => by simp at h
  | n :: ns, v :: vs, x, h, hx => by
    rw [List.zip_cons_cons, List.lookup_cons]
    cases q : (x == n) with
    | true => exact ⟨v, rfl⟩
    | false =>
      rcases List.mem_cons.mp hx with e | e
      · rw [e] at q; simp at q
      · exact zip_lookup (by simpa using h) e
theorem zip_filterMap : ∀ (ns : List Str) (vs : List Value) (pre : List (Str × Value)), ns.Nodup → ns.length = vs.length → (∀ x ∈ ns, pre.lookup x = none) →
    ns.filterMap (fun n => ((pre ++ ns.zip vs).lookup n).map (n, ·)) = ns.zip vs
  | [], vs, _, _, _, _ => by simp
  | n :: ns, [], _, _, h, _ => by simp at h
  | n :: ns, v :: vs, pre, hn, h, hp => by
    have e1 : (pre ++ (n :: ns).zip (v :: vs)).lookup n = some v := by
      rw [List.zip_cons_cons]
      have : ∀ (l : List (Str × Value)), l.lookup n = none → (l ++ (n, v) :: ns.zip vs).lookup n = some v := by
        intro l
        induction l with
        | nil => intro _; rw [List.nil_append, List.lookup_cons, beq_self_eq_true]
        | cons p l ih =>
          intro hl
          obtain ⟨k, u⟩ := p
          rw [List.lookup_cons] at hl
          rw [List.cons_append, List.lookup_cons]
          cases q : (n == k) with
          | true => rw [q] at hl; cases hl
          | false => rw [q] at hl; exact ih hl
      exact this pre (hp n (.head _))
    rw [List.filterMap_cons, e1]
    have ih := zip_filterMap ns vs (pre ++ [(n, v)]) (List.nodup_cons.mp hn).2 (by simpa using h) (fun x hx => by
      have hne : (x == n) = false := by rw [beq_eq_false_iff_ne]; intro e; exact (List.nodup_cons.mp hn).1 (e ▸ hx)
      have h0 := hp x (.tail _ hx)
      generalize pre = l at h0
      induction l with
      | nil => rw [List.nil_append, List.lookup_cons, hne]; rfl
      | cons p l ih =>
        obtain ⟨k, u⟩ := p
        rw [List.lookup_cons] at h0
        rw [List.cons_append, List.lookup_cons]
        cases q : (x == k) with
        | true => rw [q] at h0; cases h0
        | false => rw [q] at h0; exact ih h0)
    simp only [Option.map_some, List.zip_cons_cons]
    rw [show pre ++ (n, v) :: ns.zip vs = pre ++ [(n, v)] ++ ns.zip vs by simp, ih]
theorem bind_plain {fd : FuncData} {vals : List Value} (h1 : fd.params.posonlyargs = []) (h2 : fd.params.kwonlyargs = []) (h3 : fd.params.vararg = none) (h4 : fd.params.kwarg = none) (h5 : fd.defaults = .none)
    (hn : (fd.params.args.map (·.arg)).Nodup) (hl : vals.length = fd.params.args.length) : bindArgs fd ⟨vals, []⟩ = pure ((fd.params.args.map (·.arg)).zip vals) := by
  have hm : (List.filter (fun n => (((fd.params.args.map (·.arg)).zip vals).lookup n).isNone) (fd.params.args.map (·.arg))) = [] := by
    rw [List.filter_eq_nil_iff]
    intro x hx
    obtain ⟨v, e⟩ := zip_lookup (vs := vals) (by simp [hl]) hx
    rw [e]; simp
  have hf := zip_filterMap (fd.params.args.map (·.arg)) vals [] hn (by simp [hl]) (fun _ _ => rfl)
  simp only [List.nil_append] at hf
  have hs : seqItems? (.none : Value) = pure none := rfl
  unfold bindArgs
  simp only [h1, h2, h3, h4, h5, hs, List.map_nil, List.nil_append, List.append_nil, pure_bind, List.forIn_nil]
  simp only [hl, List.length_map, Option.getD_none, List.length_nil, Nat.sub_zero, Nat.zero_sub, List.drop_nil, gt_iff_lt, Nat.lt_irrefl, decide_false, Bool.false_and, Bool.false_eq_true, if_false]
  rw [List.take_of_length_le (by simp), hm]
  simp
  rw [← List.filterMap_map, hf]
structure FnAt (T : Tie) (H0 : Heap) (f : Nat) (npar : Nat) (fd : FuncData) (body : List Stmt) (vars : List Str) : Prop where
  at_ : ∃ a o, flook f T.fadr = some a ∧ H0.get? a = some o ∧ o.data = .func fd
  bd : fd.body = .stmts body
  code : H0.CodeRec fd.code fd.qualname
  clo : fd.closure = []
  glob : fd.globals = mainGlobals
  blt : fd.builtins = builtinsNs
  kind : fd.scope.kind = .function
  co : fd.scope.isCoroutine = false
  gen : fd.scope.isGenerator = false
  p1 : fd.params.posonlyargs = []
  p2 : fd.params.kwonlyargs = []
  p3 : fd.params.vararg = none
  p4 : fd.params.kwarg = none
  p5 : fd.defaults = .none
  par : fd.params.args.map (·.arg) = vars.take npar
  nle : npar ≤ vars.length
  nd : vars.Nodup
  kinds : ∀ p ∈ fd.scope.names, p.2 ≠ .free
  pk : ∀ x ∈ vars.take npar, fd.scope.names.lookup x = some .local ∨ fd.scope.names.lookup x = some .cell
noncomputable def scOf (fd : FuncData) (vars : List Str) : SC := ⟨vars.zip (List.range vars.length), fd.scope.names⟩
theorem cellsFrom_mem : ∀ (names : List (Str × NameKind)) (n : Nat) (acc : List (Str × Addr)) (x : Str), (∃ a, (x, a) ∈ acc) ∨ (x, NameKind.cell) ∈ names → ∃ a, (x, a) ∈ cellsFrom n names acc
  | [], n, acc, x, h => by
    rcases h with h | h
    · exact h
    · cases h
  | (k, kd) :: r, n, acc, x, h => by
    unfold cellsFrom
    cases q : (kd == NameKind.cell) with
    | true =>
      rw [if_pos rfl]
      refine cellsFrom_mem r _ _ x ?_
      rcases h with ⟨a, h⟩ | h
      · exact .inl ⟨a, .tail _ h⟩
      · rcases List.mem_cons.mp h with e | h
        · cases e; exact .inl ⟨n, .head _⟩
        · exact .inr h
    | false =>
      rw [if_neg (by simp)]
      refine cellsFrom_mem r _ _ x ?_
      rcases h with h | h
      · exact .inl h
      · rcases List.mem_cons.mp h with e | h
        · cases e; simp at q
        · exact .inr h
theorem lookup_of_mem : ∀ {l : List (Str × Addr)} {x : Str} {a : Addr}, (x, a) ∈ l → ∃ b, l.lookup x = some b
  | (k, v) :: r, x, a, h => by
    rw [List.lookup_cons]
    cases q : (x == k) with
    | true => exact ⟨v, rfl⟩
    | false =>
      rcases List.mem_cons.mp h with e | h
      · cases e; simp at q
      · exact lookup_of_mem h
theorem bindL_at {kd : Str → Option NameKind} {x : Str} (hk : kd x = some .local) : ∀ (l : List (Str × Value)) (m : Str → Option Value), (l.map (·.1)).Nodup → bindL kd l m x = (l.lookup x).or (m x)
  | [], m, _ => rfl
  | (n, v) :: r, m, h => by
    rw [List.map_cons, List.nodup_cons] at h
    unfold bindL
    rw [bindL_at hk r _ h.2, List.lookup_cons]
    cases q : (x == n) with
    | true =>
      have e := beq_iff_eq.mp q
      subst e
      rw [if_pos hk]
      have : r.lookup x = none := by
        cases z : r.lookup x with
        | none => rfl
        | some u => exact absurd (List.mem_map.mpr ⟨_, lookup_mem z, rfl⟩) h.1
      rw [this]; simp
    | false =>
      have hne : x ≠ n := fun e => by rw [e] at q; simp at q
      have : (if kd n = some .local then fun y => if y = n then some v else m y else m) x = m x := by
        split
        · exact if_neg hne
        · rfl
      rw [this]
theorem bindC_at {kd : Str → Option NameKind} {x : Str} (hk : kd x ≠ some .local) : ∀ (l : List (Str × Value)) (m : Str → Option Value), (l.map (·.1)).Nodup → bindC kd l m x = (l.lookup x).or (m x)
  | [], m, _ => rfl
  | (n, v) :: r, m, h => by
    rw [List.map_cons, List.nodup_cons] at h
    unfold bindC
    rw [bindC_at hk r _ h.2, List.lookup_cons]
    cases q : (x == n) with
    | true =>
      have e := beq_iff_eq.mp q
      subst e
      rw [if_neg hk]
      have : r.lookup x = none := by
        cases z : r.lookup x with
        | none => rfl
        | some u => exact absurd (List.mem_map.mpr ⟨_, lookup_mem z, rfl⟩) h.1
      rw [this]; simp
    | false =>
      have hne : x ≠ n := fun e => by rw [e] at q; simp at q
      have : (if kd n = some .local then m else fun y => if y = n then some v else m y) x = m x := by
        split
        · rfl
        · exact if_neg hne
      rw [this]
theorem zip_range_lookup : ∀ (vars : List Str) (k : Nat) (x : Str) (i : Nat), (vars.zip (List.range' k vars.length)).lookup x = some i → k ≤ i ∧ vars[i - k]? = some x
  | [], k, x, i, h => by simp at h
  | v :: vs, k, x, i, h => by
    rw [List.length_cons, List.range'_succ, List.zip_cons_cons, List.lookup_cons] at h
    cases q : (x == v) with
    | true =>
      rw [q] at h
      cases h
      rw [beq_iff_eq.mp q]; simp
    | false =>
      rw [q] at h
      obtain ⟨h1, h2⟩ := zip_range_lookup vs (k + 1) x i h
      refine ⟨by omega, ?_⟩
      rw [show i - k = (i - (k + 1)) + 1 by omega]
      simpa using h2
theorem vars_at {fd : FuncData} {vars : List Str} {x : Str} {i : Nat} (h : (scOf fd vars).vars.lookup x = some i) : vars[i]? = some x := by
  have h' : (vars.zip (List.range' 0 vars.length)).lookup x = some i := by rw [← List.range_eq_range']; exact h
  exact (zip_range_lookup vars 0 x i h').2
theorem sc_vars {sc : SC} {x : Str} {i : Nat} (h : sc.slot x = some i) : sc.vars.lookup x = some i := by
  unfold SC.slot at h
  split at h
  · exact h
  · cases h
theorem zip_get_lookup : ∀ {ns : List Str} {vs : List Value} {i : Nat} {x : Str} {v : Value}, ns.Nodup → ns[i]? = some x → vs[i]? = some v → (ns.zip vs).lookup x = some v
  | [], _, _, _, _, _, h, _ => by simp at h
  | _ :: _, [], _, _, _, _, _, h => by simp at h
  | n :: ns, u :: vs, 0, x, v, hn, h1, h2 => by
    simp at h1 h2; subst h1; subst h2
    rw [List.zip_cons_cons, List.lookup_cons, beq_self_eq_true]
  | n :: ns, u :: vs, i + 1, x, v, hn, h1, h2 => by
    simp at h1 h2
    rw [List.nodup_cons] at hn
    have hx : x ∈ ns := List.mem_of_getElem? h1
    have : (x == n) = false := by rw [beq_eq_false_iff_ne]; intro e; exact hn.1 (e ▸ hx)
    rw [List.zip_cons_cons, List.lookup_cons, this]
    exact zip_get_lookup hn.2 h1 h2
section
variable {Y : Sys} {A : Around} {l : List Env} {c c₁ : Cf}
theorem args_get {args : List MV} {n i : Nat} (h : lget (args.map LV.val ++ List.replicate n .un) i ≠ .un) : ∃ v, args[i]? = some v ∧ lget (args.map LV.val ++ List.replicate n .un) i = .val v := by
  unfold lget List.getD at *
  rw [List.getElem?_append] at *
  by_cases hi : i < (args.map LV.val).length
  · rw [if_pos hi, List.getElem?_map] at *
    rw [List.length_map] at hi
    exact ⟨args[i], List.getElem?_eq_getElem hi, by rw [List.getElem?_eq_getElem hi]; rfl⟩
  · rw [if_neg hi, List.getElem?_replicate] at h
    exact absurd (by split <;> rfl) h
noncomputable def Mcall (Mu : MU) (L : Addr) (m : Str → Option Value) (cs : List (Str × Addr)) (cm : Str → Option Value) : MU := fun a =>
  if a = L then some (.fr m) else match cs.find? (fun p => p.2 == a && cs.lookup p.1 == some p.2) with
    | some p => some (.ce (cm p.1))
    | none => Mu a
section
variable {Mu : MU} {L : Addr} {m cm : Str → Option Value} {cs : List (Str × Addr)}
theorem Mcall_cell (ap : cs.Pairwise fun x y => x.2 ≠ y.2) (ab : ∀ n c, (n, c) ∈ cs → L < c) {n : Str} {a : Addr} (h : cs.lookup n = some a) : Mcall Mu L m cs cm a = some (.ce (cm n)) := by
  have hm := lookup_mem h
  unfold Mcall
  rw [if_neg (Nat.ne_of_gt (ab _ _ hm))]
  cases q : cs.find? (fun p => p.2 == a && cs.lookup p.1 == some p.2) with
  | none =>
    have := List.find?_eq_none.mp q _ hm
    exact absurd (by rw [h, beq_self_eq_true, beq_self_eq_true]; rfl) this
  | some p =>
    have h2 := List.find?_some q
    have e := beq_iff_eq.mp (and_l h2)
    cases name_of_addr ap (n := p.1) (n' := n) (c := a) (e ▸ List.mem_of_find?_eq_some q) hm
    rfl
theorem Mcall_old (ab : ∀ n c, (n, c) ∈ cs → L < c) {a : Addr} (h : a < L) : Mcall Mu L m cs cm a = Mu a := by
  unfold Mcall
  rw [if_neg (Nat.ne_of_lt h)]
  cases q : cs.find? (fun p => p.2 == a && cs.lookup p.1 == some p.2) with
  | none => rfl
  | some p =>
    have h2 := List.find?_some q
    have e := beq_iff_eq.mp (and_l h2)
    exact absurd (Nat.lt_trans h (e ▸ ab p.1 p.2 (List.mem_of_find?_eq_some q))) (Nat.lt_irrefl _)
theorem Mcall_some {a : Addr} {x : MC} (h : Mcall Mu L m cs cm a = some x) : (a = L ∧ x = .fr m) ∨ (∃ n, cs.lookup n = some a ∧ x = .ce (cm n)) ∨ Mu a = some x := by
  unfold Mcall at h
  by_cases e : a = L
  · rw [if_pos e] at h; cases h; exact .inl ⟨e, rfl⟩
  · rw [if_neg e] at h
    cases q : cs.find? (fun p => p.2 == a && cs.lookup p.1 == some p.2) with
    | none => rw [q] at h; exact .inr (.inr h)
    | some p =>
      rw [q] at h
      have h2 := List.find?_some q
      cases h
      exact .inr (.inl ⟨p.1, beq_iff_eq.mp (and_l h2) ▸ beq_iff_eq.mp (and_r h2), rfl⟩)
end
noncomputable def Cf.call (c : Cf) (L : Addr) (m : Str → Option Value) (cs : List (Str × Addr)) (cm : Str → Option Value) (s : Shared) : Cf := { c with Mu := Mcall c.Mu L m cs cm, s := s }
theorem Mu_lt (k : c.Ok Y) {a : Addr} {x : MC} (h : c.Mu a = some x) : a < c.s.heap.objs.size := MC.at_lt (k.inv.m _ _ h)
theorem Cf.Ok.call (k : c.Ok Y) {L : Addr} {m cm : Str → Option Value} {cs : List (Str × Addr)} {s : Shared} (x : InCallC c.s L m cs cm s) : (c.call L m cs cm s).Ok Y ∧ Step c (c.call L m cs cm s) := by
  have lt : ∀ {a y}, c.Mu a = some y → a < L := fun h => Nat.lt_of_lt_of_le (Mu_lt k h) x.toInCall.fresh
  have big : ∀ {a}, L ≤ a → c.Z a = none := fun h => (k.free (Nat.le_trans x.toInCall.fresh h)).1
  obtain ⟨h, tk, e⟩ := x.toInCall.same
  refine ⟨⟨⟨fun a o e => x.toInCall.keep a o (k.inv.z a o e), fun a y e => ?_, fun a y e => ?_⟩, k.hr.mono ZLe.refl fun a o e => (Mcall_old x.above (lt e)).trans e, k.base⟩,
    ⟨ZLe.refl, PLe.refl, (congrArg rest e : rest s = _)⟩, fun a y e => ⟨y, (Mcall_old x.above (lt e)).trans e, fun _ => rfl⟩⟩
  · rcases Mcall_some e with ⟨rfl, rfl⟩ | ⟨n, h1, rfl⟩ | e
    · exact at_fr x.toInCall.ns
    · exact x.cell n a h1
    · exact MC.at_to (x.toInCall.keep a) (k.inv.m a y e)
  · rcases Mcall_some e with ⟨rfl, rfl⟩ | ⟨n, h1, rfl⟩ | e
    · exact big (Nat.le_refl _)
    · exact big (Nat.le_of_lt (x.above n a (lookup_mem h1)))
    · exact k.inv.d a y e
structure Bnd (Y : Sys) (fd : FuncData) (vars : List Str) (vals : List Value) (env : Env) (c c₁ : Cf) : Prop where
  k : c₁.Ok Y
  st : Step c c₁
  H : c₁.H = c.H
  V : EnvOk env (scOf fd vars)
  fr : env.frame = some env.locals
  own : ∃ m, c₁.Mu env.locals = some (.fr m)
  ownN : c.Mu env.locals = none
  cel : ∀ z, fd.scope.names.lookup z = some .cell → ∃ a v, env.cells.lookup z = some a ∧ c₁.Mu a = some (.ce v) ∧ c.Mu a = none
  cinj : ∀ x y a, env.cells.lookup x = some a → env.cells.lookup y = some a → x = y
  slot : ∀ (i : Nat) y v, vars[i]? = some y → vals[i]? = some v → Slot env c₁.Mu y v
theorem callEnv_ok {fd : FuncData} {body : List Stmt} {f np : Nat} {vars : List Str} (FA : FnAt Y.T Y.H0 f np fd body vars) (L a : Addr) : EnvOk (callEnvC fd L a) (scOf fd vars) :=
  ⟨rfl, FA.kind, FA.glob, FA.blt, fun h => FA.kinds _ (lookup_mem (show fd.scope.names.lookup ("__classdict__" : Str) = some .free from h)) rfl⟩
theorem bound_at {fd : FuncData} {body : List Stmt} {f np : Nat} {vars : List Str} (FA : FnAt Y.T Y.H0 f np fd body vars) (k : c.Ok Y) {a : Addr} {vals : List Value} {s : Shared} (hl : vals.length = np)
    (x : InCallC c.s (callEnvC fd c.s.heap.objs.size a).locals (bindL (callEnvC fd c.s.heap.objs.size a).kindOf ((vars.take np).zip vals) fun _ => none) (callEnvC fd c.s.heap.objs.size a).cells
        (bindC (callEnvC fd c.s.heap.objs.size a).kindOf ((vars.take np).zip vals) fun _ => none) s) : ∃ c₁ : Cf, c₁.s = s ∧ Bnd Y fd vars vals (callEnvC fd c.s.heap.objs.size a) c c₁ := by
  have E := callEnv_ok (vars := vars) FA c.s.heap.objs.size a
  generalize hv : callEnvC fd c.s.heap.objs.size a = env at x E
  have hfr : env.frame = some env.locals := hv ▸ rfl
  have hcs : env.cells = cellsFrom (c.s.heap.objs.size + 1) fd.scope.names [] := hv ▸ rfl
  have hL : env.locals = c.s.heap.objs.size := hv ▸ rfl
  have p := k.call x
  have cel : ∀ z, fd.scope.names.lookup z = some .cell → ∃ b, env.cells.lookup z = some b := fun z hz =>
    let ⟨_, hb⟩ := cellsFrom_mem fd.scope.names (c.s.heap.objs.size + 1) [] z (.inr (lookup_mem hz))
    hcs ▸ lookup_of_mem hb
  refine ⟨_, rfl, p.1, p.2, rfl, E, hfr, ⟨_, if_pos rfl⟩, (k.free (Nat.le_of_eq hL.symm)).2, fun z hz => ?_, fun y z b h1 h2 => name_of_addr x.apart (lookup_mem h1) (lookup_mem h2), fun i y v hy hv => ?_⟩
  · obtain ⟨b, hb⟩ := cel z hz
    exact ⟨b, _, hb, Mcall_cell x.apart x.above hb, (k.free (Nat.le_of_lt (Nat.lt_of_le_of_lt (Nat.le_of_eq hL.symm) (x.above z b (lookup_mem hb))))).2⟩
  · have hi : i < np := hl ▸ (List.getElem?_eq_some_iff.mp hv).1
    have hy' : (vars.take np)[i]? = some y := by rw [List.getElem?_take, if_pos hi]; exact hy
    have hnd : (vars.take np).Nodup := List.Nodup.sublist (List.take_sublist ..) FA.nd
    have hlk : ((vars.take np).zip vals).lookup y = some v := zip_get_lookup hnd hy' hv
    have hnz : (((vars.take np).zip vals).map (·.1)).Nodup := by
      rw [List.map_fst_zip (by rw [List.length_take, hl]; exact Nat.min_le_left ..)]; exact hnd
    rcases FA.pk y (List.mem_of_getElem? hy') with h | h
    · have kd : env.kindOf y = some .local := (E.k y).trans h
      exact .inl ⟨kd, _, if_pos rfl, by rw [bindL_at kd _ _ hnz, hlk]; rfl⟩
    · have kd : env.kindOf y = some .cell := (E.k y).trans h
      obtain ⟨b, hb⟩ := cel y h
      exact .inr ⟨.inl kd, b, hb, (Mcall_cell x.apart x.above hb).trans (by rw [bindC_at (fun z => nomatch kd.symm.trans z) _ _ hnz, hlk]; rfl)⟩
theorem call_enter {fd : FuncData} {body : List Stmt} {f np : Nat} {vars : List Str} (FA : FnAt Y.T Y.H0 f np fd body vars) {a : Addr} (ha : flook f Y.T.fadr = some a) (k : c.Ok Y) {vals : List Value} (hl : vals.length = np) (hd : A.depth < recursionLimit) {R : Result → Shared → Prop}
    (h : ∀ env c₁, Bnd Y fd vars vals env c c₁ → wpAny Y.M (A.deeper env) (execs body env) (fun f s' => R (.ok (.ret (match f with | .ret v => v | _ => .none))) s')
        (fun e s' => wpAny Y.M (A.deeper env) (leaving env e) (fun _ s'' => R (.error e) s'') (fun e' s'' => R (.error e') s'') s') c₁.s) : codeAny Y.M A (.call (.ref a) ⟨vals, []⟩) R c.s := by
  obtain ⟨a', o, ha', ho, hod⟩ := FA.at_
  cases ha.symm.trans ha'
  have hbl : fd.params.args.length = np := by
    have := congrArg List.length FA.par
    rw [List.length_map, List.length_take, Nat.min_eq_left FA.nle] at this; exact this
  have hbind : bindArgs fd ⟨vals, []⟩ = pure ((vars.take np).zip vals) := by
    rw [← FA.par]
    exact bind_plain FA.p1 FA.p2 FA.p3 FA.p4 FA.p5 (FA.par.symm ▸ List.Nodup.sublist (List.take_sublist ..) FA.nd) (hl.trans hbl.symm)
  have hkind : ∀ x ∈ (vars.take np).zip vals, fd.scope.names.lookup x.1 = some .local ∨ (fd.scope.names.lookup x.1 = some .cell ∧ ((cellsFrom (c.s.heap.objs.size + 1) fd.scope.names []).lookup x.1).isSome = true) := fun x hx =>
    (FA.pk _ (List.of_mem_zip hx).1).imp id fun h => ⟨h, by
      obtain ⟨b, hb⟩ := cellsFrom_mem fd.scope.names (c.s.heap.objs.size + 1) [] x.1 (.inr (lookup_mem h))
      obtain ⟨b', hb'⟩ := lookup_of_mem hb
      rw [hb']; rfl⟩
  refine codeAny_call_cells hd (k.stays _ _ ho) hod (Y.X.nolim.keeps k.stays) (FA.code.keeps k.stays) FA.bd hbind FA.clo hkind (fun s₁ x => ?_) FA.co FA.gen FA.kind
  obtain ⟨c₁, rfl, B⟩ := bound_at FA k hl x
  exact h _ c₁ B
end
end Mini
end
noncomputable section
namespace Mini
open PySem PySem.W PySem.Calls PyProof.Rows
theorem sc_vars' {fd : FuncData} {vars : List Str} (hk : ∀ p ∈ fd.scope.names, p.2 ≠ .free) {x : Str} {i : Nat} (h : (scOf fd vars).slot x = some i) : (scOf fd vars).own x = some i := by
  have n : ((scOf fd vars).names.lookup x == some NameKind.free) = false := beq_eq_false_iff_ne.mpr fun q => hk _ (lookup_mem q) rfl
  unfold SC.slot at h
  rw [n, Bool.or_false] at h
  exact h
section
variable {Y : Sys} {A : Around} {l : List Env} {c : Cf} {cf : Nat → List MV → MH → RS MV} {D U : Nat}
theorem deep_at {env : Env} (h : At A l D U) : At (A.deeper env) (env :: l) (D + 1) (U + 3) :=
  ⟨(congrArg (Option.map (env :: ·)) h.fr : A.frames.map (env :: ·) = _), h.h, Nat.succ_le_succ h.d, Nat.add_le_add_right h.u 3⟩
noncomputable def blkOf (CO : CallOk Y cf (D + 2) (U + 4)) (RO : RecOk Y cf (D + 2) (U + 4)) (hA : At A l D U) (hc : U + 23 < cLine) {fd : FuncData} {vars : List Str} {vals : List Value} {env : Env} {c₁ : Cf} (B : Bnd Y fd vars vals env c c₁) : Blk Y :=
  { A := A.deeper env, l := env :: l, env, sc := scOf fd vars, cf, D := D + 1, U := U + 3, V := B.V, N := (fun h => nomatch h), C := fun z h => let ⟨a, _, e, _⟩ := B.cel z h; ⟨a, e⟩, CO, RO, at_ := deep_at hA,
    u := Nat.lt_of_le_of_lt (Nat.add_le_add_right (deep_at (env := env) hA).u 20) hc }
theorem call_body (CO : CallOk Y cf (D + 2) (U + 4)) (RO : RecOk Y cf (D + 2) (U + 4)) (hc : U + 23 < cLine) (hD : D < recursionLimit) {f np nv : Nat} {fd : FuncData} {body : List Stmt} {vars : List Str} {mb : MSs} (FA : FnAt Y.T Y.H0 f np fd body vars) (hok : okSs Y.T (scOf fd vars) mb body = true) (hex : exSs Y.T mb body = body)
    {a : Addr} {args : List MV} {vals : List Value} (ha : flook f Y.T.fadr = some a) (k : c.Ok Y) (hv : VRs Y c.Z c.φ args vals) (F : FramesOk c l) (hA : At A l D U) {Q E : Value → Shared → Prop} (g : Go Y l (VRc Y) (runF Y.P cf ⟨np, nv, .body mb⟩ args c.H) c Q E) :
    codeAny Y.M A (.call (.ref a) ⟨vals, []⟩) (CallPost Q E) c.s := by
  have g : Go Y l (VRc Y) (if args.length = np then endF (execSs Y.P cf mb (args.map .val ++ List.replicate (nv - np) .un) c.H) else .bad) c Q E := g
  by_cases hn : args.length = np
  · rw [if_pos hn] at g
    refine call_enter FA ha k (hv.length.trans hn) (Nat.lt_of_le_of_lt hA.d hD) fun env c₁ B => ?_
    let X : Fn Y := { toBlk := blkOf CO RO hA hc B, c₀ := c, outer := l, el := rfl, inj := fun x y i h1 h2 => Option.some.inj ((vars_at (sc_vars (own_slot h1))).symm.trans (vars_at (sc_vars (own_slot h2)))), ow := fun x i h => sc_vars' FA.kinds h, cinj := B.cinj, fr := B.fr, outF := F }
    have hu : ∀ {i}, lget (args.map LV.val ++ List.replicate (nv - np) .un) i ≠ .un → ∃ v, args[i]? = some v ∧ lget (args.map LV.val ++ List.replicate (nv - np) .un) i = .val v := args_get
    have S : StS X c.Mu (args.map .val ++ List.replicate (nv - np) .un) c₁ := by
      refine ⟨B.k, B.st.toStB, fun _ _ e => e, B.st.k, B.ownN, B.own, B.cel, fun y i hy h => ?_, fun y i l a hy hl _ => ?_⟩
      · obtain ⟨v, e1, e2⟩ := hu h
        obtain ⟨rv, e3, e4⟩ := hv.get e1
        exact ⟨rv, B.slot i y rv (vars_at (sc_vars hy)) e3, e2 ▸ VR.mono B.st.z B.st.p v e4⟩
      · obtain ⟨v, e1, e2⟩ := hu (i := i) fun q => nomatch hl.symm.trans q
        exact nomatch hl.symm.trans e2
    have hr := congrArg (execSs Y.P cf mb (args.map .val ++ List.replicate (nv - np) .un)) B.H
    have W := soundSs mb X c.Mu body _ c₁ hok S
    rw [hex] at W
    refine W _ _ ⟨fun e => g.nb (by rw [← hr, show execSs Y.P cf mb _ c₁.H = _ from e]; rfl), fun c' loc S' b' e => g.ok c' _ .none S'.K (S'.out (Step.refl _)) (by rw [← hr, show execSs Y.P cf mb _ c₁.H = _ from e]; rfl) rfl,
      fun c' loc S' b' e => absurd (by rw [← hr, show execSs Y.P cf mb _ c₁.H = _ from e]; rfl) g.nb, fun c' v m k' s' e hv => g.ok c' v m k' s' (by rw [← hr, show execSs Y.P cf mb _ c₁.H = _ from e]; rfl) hv,
      fun kk lo H e s q hl => wpAny_mono hl (fun _ s'' h => ?_) fun _ _ h => h.elim, fun c' lo kk e a C B a0 S' b' e' => absurd (by rw [← hr, show execSs Y.P cf mb _ c₁.H = _ from e']; rfl) g.nb⟩
    obtain ⟨c', a, C, B, a0, rfl, k', s', rfl, fl⟩ := h
    exact g.ex c' kk e a C B a0 k' s' (by rw [← hr, show execSs Y.P cf mb _ c₁.H = _ from q]; rfl) fl
  · rw [if_neg hn] at g; exact absurd rfl g.nb
end
section
variable (T : Tie)
noncomputable def exRec : List Nat → MEs → List Stmt → List Stmt
  | f :: fs, .cons e r, xs => .Assign [.Attribute (asName (parts (partsS (xs.headD default)).a).a) (nameOf T f) (parts (partsS (xs.headD default)).a).p] (ex T e (partsS (xs.headD default)).b) (partsS (xs.headD default)).p :: exRec fs r xs.tail
  | _, _, _ => []
noncomputable def okRec (sc : SC) (self : Str) : List Nat → MEs → List Stmt → Bool
  | [], .nil, _ => true
  | _ :: fs, .cons e r, xs => ((parts (parts (partsS (xs.headD default)).a).a).s == self) && (ok T sc e (partsS (xs.headD default)).b && (noComp (ex T e (partsS (xs.headD default)).b) && okRec sc self fs r xs.tail))
  | _, _, _ => false
end
section
variable {Y : Sys} {B : Blk Y} {loc : Loc} {c : Cf}
theorem dict_ne {es : List DictEntry} {n m : Nat} {vs : Array Value} (h : MC.ex (dictOf es n) = MC.ex (listOf vs m)) : False := by injection h with h; injection h with _ _ h; cases h
theorem Ex.setX (x : Ex B loc c) {dx : Addr} {es es' : List DictEntry} {n n' : Nat} {h : Heap} {tk : Nat} (hd : c.Mu dx = some (.ex (dictOf es n))) (k : (c.setM dx (some (.ex (dictOf es' n'))) h tk).Ok Y) : Ex B loc (c.setM dx (some (.ex (dictOf es' n'))) h tk) ∧ ∀ z r, Slot B.env c.Mu z r → Slot B.env (c.setM dx (some (.ex (dictOf es' n'))) h tk).Mu z r := by
  have hn : (c.setM dx (some (.ex (dictOf es' n'))) h tk).Mu dx = some (.ex (dictOf es' n')) := Cf.setM_m ..
  have sk : ∀ z r, Slot B.env c.Mu z r → Slot B.env (c.setM dx (some (.ex (dictOf es' n'))) h tk).Mu z r := fun z r => (slot_keep (a := dx) (fun b hb => Cf.setM_ne hb) (fun m e => nomatch hd.symm.trans e) (fun m e => nomatch hd.symm.trans e) (fun m e => nomatch hn.symm.trans e) (fun m e => nomatch hn.symm.trans e) z r).mpr
  refine ⟨⟨fun y i hy hu => ?_, k, fun e he => ?_⟩, sk⟩
  · obtain ⟨r, h1, h2⟩ := x.L y i hy hu
    exact ⟨r, sk _ _ h1, h2.setM fun vs n q => dict_ne (Option.some.inj (hd.symm.trans q))⟩
  · obtain ⟨h1, L, m, h2, h3⟩ := x.F e he
    exact ⟨h1, L, m, h2, (Cf.setM_ne (ne_mu hd h3 fun q => nomatch q)).trans h3⟩
theorem evalEs_cons {P : Prg} {cf : Nat → List MV → MH → RS MV} {e : ME} {r : MEs} {loc : Loc} {H H' : MH} {ms : List MV} (h : evalEs P cf (.cons e r) loc H = .ok ms H') : ∃ m ms' H₁, evalE P cf e loc H = .ok m H₁ ∧ evalEs P cf r loc H₁ = .ok ms' H' ∧ ms = m :: ms' := by
  have h' : ((evalE P cf e loc H).bind fun v H => (evalEs P cf r loc H).bind fun vs H => RS.ok (v :: vs) H) = .ok ms H' := h
  cases q : evalE P cf e loc H with
  | bad => rw [q] at h'; cases h'
  | ex => rw [q] at h'; cases h'
  | ok m H1 =>
    rw [q] at h'
    have h' : ((evalEs P cf r loc H1).bind fun vs H => RS.ok (m :: vs) H) = .ok ms H' := h'
    cases q2 : evalEs P cf r loc H1 with
    | bad => rw [q2] at h'; cases h'
    | ex => rw [q2] at h'; cases h'
    | ok ms' H2 => rw [q2] at h'; cases h'; exact ⟨m, ms', H1, rfl, q2, rfl⟩
theorem Cf.Ok.setX (k : c.Ok Y) {dx : Addr} {o o' : Obj} {h : Heap} {tk : Nat} (hd : c.Mu dx = some (.ex o)) (I : Inv c.Z (upd c.Mu dx (some (.ex o'))) h) : (c.setM dx (some (.ex o')) h tk).Ok Y :=
  ⟨I, k.hr.mono ZLe.refl fun a s e => (upd_ne (ne_mu hd e fun q => nomatch q)).trans e, k.base⟩
structure RecE (Y : Sys) (B : Blk Y) (loc : Loc) (es : MEs) (k : MCls) (dx : Addr) (fs : Flds) (c c' : Cf) (ms : List MV) (ed : List DictEntry) (n : Nat) (vd : List Value) : Prop where
  ok : c'.Ok Y
  st : ∀ d : Cf, Step d c → d.Mu dx = none → Step d c'
  z : ZLe c.Z c'.Z
  eq : evalEs Y.P B.cf es loc c.H = .ok ms c'.H
  mu : c'.Mu dx = some (.ex (dictOf ed n))
  en : Ents Y.T.hs (k.flds.map (nameOf Y.T)) vd ed
  vr : VRs Y c'.Z c'.φ (fs.map (·.2) ++ ms) vd
theorem rec_body {self : Str} {ci : Nat} {k : MCls} {C x dx : Addr} (hk : Y.P.cls[ci]? = some k) (hC : Y.T.cadr[ci]? = some C) (hself : (self == dbg) = false) (hz : k.flds.length ≤ 100) {Q : Flow → Shared → Prop} {E : Value → Shared → Prop} :
    ∀ (flds : List Nat) (es : MEs) (xs : List Stmt) (c : Cf) (fs : Flds) (ed : List DictEntry) (n : Nat) (vd : List Value), okRec Y.T B.sc self flds es xs = true → fs.map (·.1) ++ flds = k.flds → Ex B loc c → Slot B.env c.Mu self (.ref x) → c.Z x = some (instObj C dx) →
      c.Mu dx = some (.ex (dictOf ed n)) → Ents Y.T.hs (fs.map fun p => nameOf Y.T p.1) vd ed → VRs Y c.Z c.φ (fs.map (·.2)) vd → (∃ ms H', evalEs Y.P B.cf es loc c.H = .ok ms H') →
      (∀ c' ms ed n vd, RecE Y B loc es k dx fs c c' ms ed n vd → Q .next c'.s) → wpAny Y.M B.A (execs (exRec Y.T flds es xs) B.env) Q E c.s
  | [], .nil, xs, c, fs, ed, n, vd, hok, hfl, X, hsl, hx, hd, hE, hv, he, h =>
    wpAny_execs_nil (h c [] ed n vd ⟨X.K, fun _ s _ => s, ZLe.refl, rfl, hd, by rw [← hfl, List.append_nil, List.map_map]; exact hE, by rw [List.append_nil]; exact hv⟩)
  | [], .cons _ _, _, _, _, _, _, _, hok, _, _, _, _, _, _, _, _, _ => nomatch hok
  | _ :: _, .nil, _, _, _, _, _, _, hok, _, _, _, _, _, _, _, _, _ => nomatch hok
  | f :: flds, .cons e r, xs, c, fs, ed, n, vd, hok, hfl, X, hsl, hx, hd, hE, hv, he, h => by
    obtain ⟨ms, H', he⟩ := he
    obtain ⟨m, ms', H₁, e1, e2, rfl⟩ := evalEs_cons he
    have hs := beq_iff_eq.mp (and_l hok)
    have h2 := and_r hok
    have h3 := and_r h2
    refine wpAny_execs_cons (wp_of (plainObj_exec_Assign_Attribute _ _ _ _ _ (noComp_plain (and_l h3) _ _ _)) (wpAny_bind (wpAny_standAt (wpAny_bind (soundE e B _ loc c (and_l h2) X _ _ ⟨(fun q => nomatch e1.symm.trans q), fun c₁ u m' k₁ s₁ e₁ r₁ => ?_, fun c₁ kk e' a C' B' a0 k₁ s₁ e₁ _ => (nomatch e1.symm.trans e₁)⟩)))))
    cases e1.symm.trans e₁
    have X₁ := X.step s₁ k₁
    have hsl₁ := hsl.step s₁
    have hd₁ : c₁.Mu dx = some (.ex (dictOf ed n)) := s₁.keep rfl hd
    have CO := cls_at hk hC
    obtain ⟨L, fm, hL⟩ := X₁.top
    have hfm : f ∈ k.flds := hfl ▸ List.mem_append_right _ (.head _)
    have hlt : ∀ p ∈ fs, p.1 < Y.T.names.length := fun p hp => (CO.flds p.1 (hfl ▸ List.mem_append_left _ (List.mem_map.mpr ⟨p, hp, rfl⟩))).1
    have hnew : f ∉ fs.map (·.1) := fun hm => (List.nodup_append.mp (hfl ▸ CO.nodup : (fs.map (·.1) ++ f :: flds).Nodup)).2.2 f hm f (.head _) rfl
    have hput : fput f m fs = fs ++ [(f, m)] := fput_new fs hnew
    have hlen : fs.length < 100 := by
      have := congrArg List.length hfl
      rw [List.length_append, List.length_map, List.length_cons] at this
      exact Nat.lt_of_lt_of_le (Nat.lt_of_lt_of_le (Nat.lt_add_of_pos_right (Nat.succ_pos _)) (Nat.le_of_eq this)) hz
    refine wpAny_bind (wp_of (assign_Attribute ..) (wpAny_bind (wpAny_holding (wpAny_Name (hs ▸ wp_var B.V k₁ hsl₁ (wpAny_bind (wpAny_standAt (wpAny_bind (wpAny_holding ?_))))) (hs ▸ hself)))))
    refine wp_put k₁ hL CO hfm (s₁.z _ _ hx) hd₁ (ex_at (k₁.inv.m _ _ hd₁)) (fun _ q => nomatch q) hE hlt hlen (mv := m) fun h' es' n' tk I hE' => ?_
    have k₂ := k₁.setX (tk := tk) hd₁ (I (.ex _) rfl)
    obtain ⟨X₂, sk⟩ := X₁.setX (tk := tk) hd₁ k₂
    refine wpAny_release (wpAny_pure ?_)
    refine rec_body hk hC hself hz flds r xs.tail (c₁.setM dx (some (.ex (dictOf es' n'))) h' tk) (fput f m fs) es' n' _ (and_r h3) (by rw [hput, List.map_append, List.append_assoc]; exact hfl) X₂ (sk _ _ hsl₁) (s₁.z _ _ hx) (upd_self ..) hE' (vput_vrs r₁ (VRs.mono s₁.z s₁.p _ hv)) ⟨ms', H', e2⟩ fun c₃ ms₃ ed₃ n₃ vd₃ R => ?_
    have e3 : evalEs Y.P B.cf r loc c₁.H = .ok ms₃ c₃.H := R.eq
    cases e2.symm.trans e3
    refine h c₃ (m :: ms') ed₃ n₃ vd₃ ⟨R.ok, fun d sd hd0 => R.st d ((sd.trans s₁).setM hd0) hd0, fun a o q => R.z a o (s₁.z a o q), he, R.mu, R.en, ?_⟩
    have := R.vr
    rw [hput, List.map_append, List.append_assoc] at this
    exact this
end
section
variable {Y : Sys} {A : Around} {l : List Env} {c : Cf} {cf : Nat → List MV → MH → RS MV} {D U : Nat}
theorem call_rec (CO : CallOk Y cf (D + 2) (U + 4)) (RO : RecOk Y cf (D + 2) (U + 4)) (hc : U + 23 < cLine) (hD : D < recursionLimit) {cf' : Nat → List MV → MH → RS MV} {f np nv ci : Nat} {k : MCls} {fd : FuncData} {body : List Stmt} {vars : List Str} {self : Str} {es : MEs} {C x dx : Addr} (hk : Y.P.cls[ci]? = some k) (hC : Y.T.cadr[ci]? = some C)
    (FA : FnAt Y.T Y.H0 f np fd body vars) (hself : vars[0]? = some self) (hs0 : (self == dbg) = false) (hz : k.flds.length ≤ 100) (hok : okRec Y.T (scOf fd vars) self k.flds es body = true) (hex : exRec Y.T k.flds es body = body)
    {a : Addr} {args : List MV} {vals : List Value} (ha : flook f Y.T.fadr = some a) (K : c.Ok Y) (hx : c.Z x = some (instObj C dx)) (hdx : c.Mu dx = some (.ex (dictOf [] 0))) (hv : VRs Y c.Z c.φ args vals) (F : FramesOk c l) (hA : At A l D U)
    (he : cf' k.init args c.H = runF Y.P cf ⟨np, nv, .record ci es⟩ args c.H) (hb : cf' k.init args c.H ≠ .bad) (R : Result → Shared → Prop) (h : ∀ c' ms es n vs, RecD Y cf' c ci k dx args c' ms es n vs → R (.ok (.ret .none)) c'.s) :
    codeAny Y.M A (.call (.ref a) ⟨.ref x :: vals, []⟩) R c.s := by
  have he : cf' k.init args c.H = if args.length + 1 = np then recM ci (evalEs Y.P cf es (.un :: args.map .val) c.H) else .bad := he
  by_cases hn : args.length + 1 = np
  · rw [if_pos hn] at he
    refine call_enter FA ha K (show (Value.ref x :: vals).length = np from (congrArg (· + 1) hv.length).trans hn) (Nat.lt_of_le_of_lt hA.d hD) fun env c₁ B => ?_
    have hu : ∀ {i}, lget (args.map LV.val ++ List.replicate 0 .un) i ≠ .un → ∃ v, args[i]? = some v ∧ lget (args.map LV.val ++ List.replicate 0 .un) i = .val v := args_get
    rw [List.replicate_zero, List.append_nil] at hu
    have X₁ : Ex (blkOf CO RO hA hc B) (.un :: args.map .val) c₁ := by
      refine ⟨fun z i hz hu' => ?_, B.k, fun e he => ?_⟩
      · cases i with
        | zero => exact absurd rfl hu'
        | succ i =>
          obtain ⟨v, e1, e2⟩ := hu (i := i) hu'
          obtain ⟨rv, e3, e4⟩ := hv.get e1
          exact ⟨rv, B.slot (i + 1) z rv (vars_at (sc_vars hz)) e3, (show lget (.un :: args.map .val) (i + 1) = .val v from e2) ▸ VR.mono B.st.z B.st.p v e4⟩
      · rcases List.mem_cons.mp he with rfl | he
        · obtain ⟨m, hm⟩ := B.own
          exact ⟨(by rw [B.V.kind]; exact fun h => nomatch h), _, m, B.fr, hm⟩
        · exact (F.step B.st) e he
    have hm : ∃ ms H', evalEs Y.P cf es (.un :: args.map .val) c₁.H = .ok ms H' := by
      rw [B.H]
      cases ee : evalEs Y.P cf es (.un :: args.map .val) c.H with
      | bad => rw [ee] at he; exact absurd he hb
      | ex => rw [ee] at he; exact absurd he hb
      | ok ms H' => exact ⟨ms, H', rfl⟩
    rw [← hex]
    refine rec_body (B := blkOf CO RO hA hc B) hk hC hs0 hz k.flds es body c₁ [] [] 0 [] hok rfl X₁ (B.slot 0 self _ hself rfl) (B.st.z _ _ hx) (B.st.keep rfl hdx) .nil rfl hm fun c' ms ed n vd r => ?_
    refine h c' ms ed n vd ⟨r.ok, fun d sd hd0 => r.st d (sd.trans B.st) hd0, fun a o q => r.z a o (B.st.z a o q), ?_, r.mu, r.en, r.vr⟩
    have e : evalEs Y.P cf es (.un :: args.map .val) c₁.H = .ok ms c'.H := r.eq
    rw [B.H] at e
    rw [he, e]; rfl
  · rw [if_neg hn] at he; exact absurd he hb
structure Tab (Y : Sys) : Prop where
  body : ∀ f np nv b, flook f Y.P.funs = some ⟨np, nv, .body b⟩ → ∃ fd body vars, FnAt Y.T Y.H0 f np fd body vars ∧ okSs Y.T (scOf fd vars) b body = true ∧ exSs Y.T b body = body
  recs : ∀ f np nv ci es, flook f Y.P.funs = some ⟨np, nv, .record ci es⟩ → ¬ NotInit Y.P f
  rbody : ∀ (ci : Nat) k, Y.P.cls[ci]? = some k → k.record = true → ∃ np nv es fd body vars self, flook k.init Y.P.funs = some ⟨np, nv, .record ci es⟩ ∧ FnAt Y.T Y.H0 k.init np fd body vars ∧ vars[0]? = some self ∧
    (self == dbg) = false ∧ k.flds.length ≤ 100 ∧ okRec Y.T (scOf fd vars) self k.flds es body = true ∧ exRec Y.T k.flds es body = body
theorem callN_succ {P : Prg} {d f : Nat} {args : List MV} {H : MH} : callN P (d + 1) f args H = match flook f P.funs with | some m => runF P (callN P d) m args H | Option.none => .bad := rfl
theorem call_all (B : Tab Y) : ∀ d D U, D + 2 * d ≤ 900 → U + 4 * d ≤ 9000 → CallOk Y (callN Y.P d) D U ∧ RecOk Y (callN Y.P d) D U
  | 0, D, U, _, _ => ⟨fun f a args vals c A l _ _ _ _ _ _ Q E g => absurd rfl g.nb, fun ci k C a x dx args vals c A l _ _ _ _ _ _ _ _ _ _ hb => absurd rfl hb⟩
  | d + 1, D, U, hD, hU => by
    obtain ⟨CO, RO⟩ := call_all B d (D + 2) (U + 4) (by omega) (by omega)
    have hc : U + 23 < cLine := by show U + 23 < 9900; omega
    have hD' : D < recursionLimit := by show D < 1000; omega
    refine ⟨fun f a args vals c A l ha hnr k hv F hA Q E g => ?_, fun ci k C a x dx args vals c A l hk hr hC ha K hx hdx hv F hA hb R h => ?_⟩
    · have g : Go Y l (VRc Y) (match flook f Y.P.funs with | some m => runF Y.P (callN Y.P d) m args c.H | Option.none => .bad) c Q E := g
      cases hf : flook f Y.P.funs with
      | none => rw [hf] at g; exact absurd rfl g.nb
      | some m =>
        rw [hf] at g
        obtain ⟨np, nv, fk⟩ := m
        cases fk with
        | body b =>
          obtain ⟨fd, body, vars, FA, hok, hex⟩ := B.body f np nv b hf
          exact call_body CO RO hc hD' FA hok hex ha k hv F hA g
        | record ci es => exact absurd hnr (B.recs f np nv ci es hf)
    · obtain ⟨np, nv, es, fd, body, vars, self, hf, FA, h0, hs0, hz, hok, hex⟩ := B.rbody ci k hk hr
      exact call_rec CO RO hc hD' hk hC FA h0 hs0 hz hok hex ha K hx hdx hv F hA (by rw [callN_succ, hf]) hb R h
end
end Mini
end
noncomputable section
namespace Mini
open PySem PySem.W PySem.Calls PyProof.Rows
section
variable (P : Prg) (T : Tie)
noncomputable def isRef (o : Option (Option Value)) (a : Addr) : Bool := o == some (some (.ref a))
noncomputable def chkG : Str × GV → Bool
  | (x, .fn f) => (flook f T.fadr).any fun a => isRef (nsIn T.K mainGlobals x) a && keepIn T.K (.ref a)
  | (x, .cls c) => (T.cadr[c]?).any fun C => isRef (nsIn T.K mainGlobals x) C && keepIn T.K (.ref C)
  | (x, .exc c) => (T.eadr[c]?).any fun C => isRef (nsIn T.K mainGlobals x) C
  | (x, .gint _ i) => (match nsIn T.K mainGlobals x with | some (some (.int j _)) => decide (j = i) | _ => false)
  | (x, .blt k) => !(x == ("__name__" : Str)) && (nsIn T.K mainGlobals x == some none && bootBuiltins x == some (bltV k))
noncomputable def chkFld (C : Addr) (f : Nat) : Bool := decide (f < T.names.length) && ((findIn T.K (.ref C) (nameOf T f)).any (noGet T.K ·) && takerIn T.K C (nameOf T f) == some none)
noncomputable def chkMeth (k : MCls) (C : Addr) (p : Nat × Nat) : Bool := decide (p.1 < T.names.length) && (!k.flds.contains p.1 && (flook p.2 T.fadr).any fun a => isRef (findIn T.K (.ref C) (nameOf T p.1)) a && (isFn T.K (.ref a) && keepIn T.K (.ref a)))
noncomputable def chkCls (k : MCls) (C : Addr) : Bool :=
  plainGet T.K C "" && (hasDictIn T.K C && (makesIn T.K C && (findIn T.K (.ref C) "__setattr__" == some (some (.builtin "object.__setattr__")) && (plainOver T.K C &&
  ((flook k.init T.fadr).any (fun a => isRef (findIn T.K (.ref C) "__init__") a && isFn T.K (.ref a)) && (k.flds.all (chkFld T C) && (decide k.flds.Nodup && k.meths.all (chkMeth T k C))))))))
noncomputable def noInit (K : Frag) (N : Addr) : Bool := match K.lookup N with
  | some ⟨_, _, .dict es _, _⟩ => es.toList.all fun e => match e.key with | .str n _ => !(n == ("__init__" : Str)) | _ => false
  | _ => false
noncomputable def tailOk (K : Frag) : Nat → List Value → Bool
  | 0, _ => false
  | n + 1, bm => bm == [.type "Exception", .type "BaseException", .type "object"] || (match bm with
    | .ref A :: tl => (match K.lookup A with | some ⟨_, _, .cls cd, _⟩ => noInit K cd.ns | _ => false) && tailOk K n tl
    | _ => false)
noncomputable def chkExc (c : Nat) (C : Addr) : Bool := match T.K.lookup C with
  | some ⟨cls, _, .cls ⟨_, _, mro, N, _, _, _, _, _, _, del⟩, sl⟩ => cls == .type "type" && (!del && (match mro, sl.toList with
    | .ref C' :: bm, [_, _, _, _, some (.builtin id), _] => C' == C && (id == "Exception.__new__" && (bm.contains (.type "BaseException") && (noInit T.K N && (tailOk T.K 8 bm &&
        (List.range T.eadr.length).all fun d => (T.eadr[d]?).any fun D => (Value.ref C :: bm).contains (.ref D) == P.sub c d))))
    | _, _ => false))
  | _ => false
noncomputable def chkRow {α β : Type} (xs : List α) (ys : List β) (f : Nat → α → β → Bool) : Bool := (List.range xs.length).all fun c => match xs[c]?, ys[c]? with | some k, some C => f c k C | _, _ => false
theorem chkRow_of {α β : Type} {xs : List α} {ys : List β} {f : Nat → α → β → Bool} (h : chkRow xs ys f = true) {c : Nat} {x : α} (e : xs[c]? = some x) : ∃ y, ys[c]? = some y ∧ f c x y = true := by
  have := List.all_eq_true.mp h c (List.mem_range.mpr (List.getElem?_eq_some_iff.mp e).1)
  rw [e] at this
  cases q : ys[c]? with
  | none => rw [q] at this; cases this
  | some y => rw [q] at this; exact ⟨y, rfl, this⟩
end
section
variable {P : Prg} {T : Tie} {H0 : Heap}
theorem noInit_of {K : Frag} {N : Addr} (X : K.In H0) (h : noInit K N = true) : ∃ mN, H0.Ns N mN ∧ mN "__init__" = none := by
  unfold noInit at h
  split at h
  · rename_i c d es n sl q
    have key : ∀ e ∈ es.toList, ∃ x t, e.key = .str x t ∧ (x == ("__init__" : Str)) = false := fun e he => by
      have := List.all_eq_true.mp h e he
      cases hk : e.key with
      | str x t => rw [hk] at this; exact ⟨x, t, rfl, not_t this⟩
      | _ => rw [hk] at this; cases this
    refine ⟨nsFind es, ⟨_, es, n, X _ _ q, rfl, fun e he => let ⟨x, t, e, _⟩ := key e (Array.mem_toList_iff.mpr he); ⟨x, t, e⟩, fun _ => rfl⟩, ?_⟩
    unfold nsFind findBy
    rw [Array.find?_eq_none.mpr fun e he hi => by
      obtain ⟨x, t, e, f⟩ := key e (Array.mem_toList_iff.mpr he)
      rw [e] at hi
      exact nomatch f.symm.trans hi]
    rfl
  · cases h
theorem tailOk_of {K : Frag} (X : K.In H0) : ∀ (n : Nat) (bm : List Value), tailOk K n bm = true → OwnTail H0 [.type "Exception", .type "BaseException", .type "object"] bm
  | 0, _, h => nomatch h
  | n + 1, bm, h => by
    unfold tailOk at h
    rcases or_of h with h | h
    · rw [beq_iff_eq.mp h]; exact .base
    · split at h
      · have h1 := and_l h
        split at h1
        · rename_i q
          obtain ⟨mN, e1, e2⟩ := noInit_of X h1
          exact .own (X _ _ q) e1 e2 (tailOk_of X n _ (and_r h))
        · cases h1
      · cases h
theorem exc_of (X : T.K.In H0) {c : Nat} {C : Addr} (h1 : chkExc P T c C = true) : ∃ nm q N bs bm hdct sn sub ab col dd k0 k1 k2 k3 k5 newId B initId bmB mN, ExcIn P T H0 c C nm q N bs bm hdct sn sub ab col dd k0 k1 k2 k3 k5 newId B initId bmB mN := by
  unfold chkExc at h1
  split at h1
  · rename_i cls dd nm bs mro N qn hd sn sub ab col del sl q
    have g1 := beq_iff_eq.mp (and_l h1)
    have hdel := not_t (and_l (and_r h1))
    have g3 := and_r (and_r h1)
    split at g3
    · rename_i C' bm k0 k1 k2 k3 id k5 hsl
      have e1 := beq_iff_eq.mp (and_l g3)
      have g3 := and_r g3
      have e2 := beq_iff_eq.mp (and_l g3)
      have g3 := and_r g3
      have g4 := and_r g3
      have g5 := and_r g4
      subst e1; subst e2; subst g1; subst hdel
      have hs : sl = #[k0, k1, k2, k3, some (.builtin "Exception.__new__"), k5] := Array.toList_inj.mp hsl
      subst hs
      obtain ⟨mN, n1, n2⟩ := noInit_of X (and_l g4)
      refine ⟨nm, qn, N, bs, bm, hd, sn, sub, ab, col, dd, k0, k1, k2, k3, k5, "Exception.__new__", "Exception", "Exception.__init__", _, mN, X _ _ q, n1, n2, tailOk_of X 8 bm (and_l g5), PySem.F.excBase_Exception, and_l g3, fun d D hD => ?_⟩
      have h2 := List.all_eq_true.mp (and_r g5) d (List.mem_range.mpr (List.getElem?_eq_some_iff.mp hD).1)
      rw [hD] at h2
      exact beq_iff_eq.mp h2
    · cases g3
  · cases h1
theorem flook_mem {α : Type} {f : Nat} {v : α} : ∀ {l : List (Nat × α)}, flook f l = some v → (f, v) ∈ l
  | (g, w) :: r, h => by
    unfold flook at h
    by_cases q : g = f
    · rw [if_pos q] at h; cases h; rw [q]; exact .head _
    · rw [if_neg q] at h; exact .tail _ (flook_mem h)
theorem ref_of {o : Option (Option Value)} {a : Addr} (h : isRef o a = true) : o = some (some (.ref a)) := beq_iff_eq.mp h
theorem clsOk_of {k : MCls} {C : Addr} (h : chkCls T k C = true) : ClsOk T k C := by
  have h2 := and_r h
  have h3 := and_r h2
  have h4 := and_r h3
  have h5 := and_r h4
  have h6 := and_r h5
  have h7 := and_r h6
  have h8 := and_r h7
  refine ⟨and_l h, and_l h2, and_l h3, beq_iff_eq.mp (and_l h4), and_l h5, ?_, fun f hf => ?_, of_decide_eq_true (and_l h8), fun m f hm => ?_⟩
  · obtain ⟨a, e, q⟩ := any_some (and_l h6)
    exact ⟨a, e, ref_of (and_l q), and_r q⟩
  · have g := List.all_eq_true.mp (and_l h7) f hf
    have g2 := and_r g
    obtain ⟨a, e, q⟩ := any_some (and_l g2)
    exact ⟨of_decide_eq_true (and_l g), ⟨a, e, q⟩, beq_iff_eq.mp (and_r g2)⟩
  · have g := List.all_eq_true.mp (and_r h8) (m, f) (flook_mem hm)
    have g2 := and_r g
    obtain ⟨a, e, q⟩ := any_some (and_r g2)
    exact ⟨of_decide_eq_true (and_l g), (fun hm => nomatch (not_t (and_l g2)).symm.trans (List.contains_iff_mem.mpr hm)), a, e, ref_of (and_l q), and_l (and_r q), and_r (and_r q)⟩
end
noncomputable def fnShape (T : Tie) (np : Nat) (vars : List Str) (fd : FuncData) : Bool :=
  codeIn T.K fd.code fd.qualname && (fd.closure.isEmpty && (decide (fd.globals = mainGlobals) && (decide (fd.builtins = builtinsNs) && (fd.scope.kind == .function && (!fd.scope.isCoroutine && (!fd.scope.isGenerator &&
  (fd.params.posonlyargs.isEmpty && (fd.params.kwonlyargs.isEmpty && (fd.params.vararg.isNone && (fd.params.kwarg.isNone && (fd.defaults == .none && (fd.params.args.map (·.arg) == vars.take np && (decide (np ≤ vars.length) && (decide vars.Nodup &&
  (fd.scope.names.all (fun p => !(p.2 == .free)) && (vars.take np).all (fun x => fd.scope.names.lookup x == some .local || fd.scope.names.lookup x == some .cell))))))))))))))))
noncomputable def fnAt (T : Tie) (f : Nat) : Option (FuncData × List Stmt) := (flook f T.fadr).bind fun a => match T.K.lookup a with
  | some ⟨_, _, .func fd, _⟩ => (match fd.body with | .stmts body => some (fd, body) | _ => none)
  | _ => none
noncomputable def okFn (P : Prg) (T : Tie) (vars : List Str) (fd : FuncData) (body : List Stmt) (m : MF) : Bool := match m.fk with
  | .body b => okSs T (scOf fd vars) b body
  | .record ci es => (P.cls[ci]?).any fun k => (vars.head?).any fun self => k.record && (!(self == dbg) && (decide (k.flds.length ≤ 100) && okRec T (scOf fd vars) self k.flds es body))
noncomputable def exFn (P : Prg) (T : Tie) (m : MF) (body : List Stmt) : List Stmt := match m.fk with
  | .body b => exSs T b body
  | .record ci es => match P.cls[ci]? with | some k => exRec T k.flds es body | none => []
noncomputable def chkFn (P : Prg) (T : Tie) (vars : List Str) (p : Nat × MF) : Bool := (fnAt T p.1).any fun q => fnShape T p.2.npar vars q.1 && okFn P T vars q.1 q.2 p.2
noncomputable def bodyOf (T : Tie) (f : Nat) : List Stmt := match fnAt T f with | some q => q.2 | none => []
noncomputable def notInit (P : Prg) (f : Nat) : Bool := P.cls.all fun k => !k.record || !(k.init == f)
noncomputable def apart (P : Prg) (gl : List (Str × GV)) : Bool := P.cls.all (fun k' => (k'.record || notInit P k'.init) && k'.meths.all fun p => notInit P p.2) && (gl.all (fun p => match p.2 with | .fn f => notInit P f | _ => true) &&
  (P.funs.all (fun p => match p.2.fk with | .record ci _ => (P.cls[ci]?).any fun k => k.record && (k.init == p.1) | _ => true) && chkRow P.cls P.cls (fun ci k _ => !k.record || (flook k.init P.funs).any fun m => match m.fk with | .record cj _ => decide (cj = ci) | _ => false)))
noncomputable def chkAll (P : Prg) (T : Tie) (vs : Nat → List Str) : Bool := T.gl.all (chkG T) && (chkRow P.cls T.cadr (fun _ k C => chkCls T k C) && (chkRow T.eadr T.eadr (fun c _ C => chkExc P T c C) && P.funs.all fun p => chkFn P T (vs p.1) p))
section
variable {P : Prg} {T : Tie} {H0 : Heap}
theorem notInit_of {f : Nat} (h : notInit P f = true) : NotInit P f := fun ci k e hr q => by
  have := List.all_eq_true.mp h k (List.mem_of_getElem? e)
  rw [hr, q, beq_self_eq_true] at this
  cases this
theorem fnShape_of (X : T.K.In H0) {f np : Nat} {vars : List Str} {fd : FuncData} {body : List Stmt} (hf : fnAt T f = some (fd, body)) (h : fnShape T np vars fd = true) : FnAt T H0 f np fd body vars := by
  obtain ⟨a, ha, hf⟩ := of_bind hf
  split at hf
  · rename_i c d fd' sl hk
    split at hf
    · rename_i body' hb
      cases hf
      have h2 := and_r h
      have h3 := and_r h2
      have h4 := and_r h3
      have h5 := and_r h4
      have h6 := and_r h5
      have h7 := and_r h6
      have h8 := and_r h7
      have h9 := and_r h8
      have h10 := and_r h9
      have h11 := and_r h10
      have h12 := and_r h11
      have h13 := and_r h12
      have h14 := and_r h13
      have h15 := and_r h14
      have h16 := and_r h15
      refine ⟨⟨a, _, ha, X _ _ hk, rfl⟩, hb, codeRec_of X (and_l h), List.isEmpty_iff.mp (and_l h2), of_decide_eq_true (and_l h3), of_decide_eq_true (and_l h4), beq_iff_eq.mp (and_l h5), not_t (and_l h6), not_t (and_l h7), List.isEmpty_iff.mp (and_l h8), List.isEmpty_iff.mp (and_l h9),
        Option.isNone_iff_eq_none.mp (and_l h10), Option.isNone_iff_eq_none.mp (and_l h11), beq_iff_eq.mp (and_l h12), beq_iff_eq.mp (and_l h13), of_decide_eq_true (and_l h14), of_decide_eq_true (and_l h15), fun p hp e => ?_, fun x hx => ?_⟩
      · have := List.all_eq_true.mp (and_l h16) p hp
        rw [e] at this; cases this
      · exact (or_of (List.all_eq_true.mp (and_r h16) x hx)).imp beq_iff_eq.mp beq_iff_eq.mp
    · cases hf
  · cases hf
theorem zip_all {α β : Type} {g : α → β} {e : α → β → β} : ∀ {l : List α}, (l.zip (l.map g)).map (fun q => e q.1 q.2) = l.map g → ∀ p ∈ l, e p (g p) = g p
  | x :: l, h, p, hp => by
    have h1 : e x (g x) = g x := (List.cons.inj h).1
    rcases List.mem_cons.mp hp with rfl | hp
    · exact h1
    · exact zip_all (List.cons.inj h).2 p hp
end
structure Shown (P : Prg) (T : Tie) (vs : Nat → List Str) (B0 : List (List Stmt)) : Prop where
  chk : chkAll P T vs = true
  bodies : P.funs.map (fun p => bodyOf T p.1) = B0
  ex : (P.funs.zip B0).map (fun q => exFn P T q.1.2 q.2) = B0
  apart : apart P T.gl = true
  nd : decide T.names.Nodup = true
theorem gint_of {T : Tie} {x : Str} {n : Nat} {i : Int} (h : chkG T (x, .gint n i) = true) : ∃ t, nsIn T.K mainGlobals x = some (some (.int i t)) := by
  have h : (match nsIn T.K mainGlobals x with | some (some (.int j _)) => decide (j = i) | _ => false) = true := h
  split at h
  · rename_i j t q; cases of_decide_eq_true h; exact ⟨t, q⟩
  · cases h
theorem tied_of {P : Prg} {T : Tie} {H0 : Heap} {vs : Nat → List Str} {B0 : List (List Stmt)} (S : Shown P T vs B0) (X : T.K.In H0) (hng : ∃ mg mb, H0.Ns mainGlobals mg ∧ H0.Ns builtinsNs mb ∧ ∀ x : Str, x ≠ "__name__" → mb x = bootBuiltins x) (hnl : H0.NoLimit) : Tied P T H0 := by
  have c2 := and_r S.chk
  have g : ∀ {x v}, T.gl.lookup x = some v → chkG T (x, v) = true := fun e => List.all_eq_true.mp (and_l S.chk) _ (lookup_mem e)
  refine ⟨X, hng, hnl, fun x f e => ?_, fun x f e => ?_, fun x f e => ?_, fun x n i e => gint_of (g e), fun x k e => ?_, of_decide_eq_true S.nd, fun c k e => ?_⟩
  · obtain ⟨a, q, h⟩ := any_some (g e); exact ⟨a, q, ref_of (and_l h), and_r h⟩
  · obtain ⟨a, q, h⟩ := any_some (g e); exact ⟨a, q, ref_of (and_l h), and_r h⟩
  · obtain ⟨a, q, h⟩ := any_some (g e); exact ⟨a, q, ref_of h⟩
  · have h := g e
    exact ⟨beq_eq_false_iff_ne.mp (not_t (and_l h)), beq_iff_eq.mp (and_l (and_r h)), beq_iff_eq.mp (and_r (and_r h))⟩
  · obtain ⟨C, q, h⟩ := chkRow_of (and_l c2) e; exact ⟨C, q, clsOk_of h⟩
noncomputable def sysOf (prog : Program) (w : World) {P : Prg} {T : Tie} {H0 : Heap} {vs : Nat → List Str} {B0 : List (List Stmt)} (S : Shown P T vs B0) (X : T.K.In H0) (hng : ∃ mg mb, H0.Ns mainGlobals mg ∧ H0.Ns builtinsNs mb ∧ ∀ x : Str, x ≠ "__name__" → mb x = bootBuiltins x) (hnl : H0.NoLimit) (hs : ∀ n, T.hs n = PyData.keyHash w.params n) : Sys :=
  have c2 := and_r S.chk
  have c3 := and_r c2
  have a2 := and_r S.apart
  { prog, w, P, T, H0, hs, X := tied_of S X hng hnl
    EX := fun c C e => let ⟨_, q, h⟩ := chkRow_of (and_l c3) e; exc_of X (by cases e.symm.trans q; exact h)
    recs := fun cj k' e hr => notInit_of ((or_of (and_l (List.all_eq_true.mp (and_l S.apart) k' (List.mem_of_getElem? e)))).resolve_left fun q => nomatch hr.symm.trans q)
    rmeth := fun cj k' m f e h => notInit_of (List.all_eq_true.mp (and_r (List.all_eq_true.mp (and_l S.apart) k' (List.mem_of_getElem? e))) _ (flook_mem h))
    rfun := fun x f e => notInit_of (List.all_eq_true.mp (and_l a2) _ (lookup_mem e)) }
section
variable {P : Prg} {T : Tie} {H0 : Heap} {vs : Nat → List Str} {B0 : List (List Stmt)} {prog : Program} {w : World}
theorem tab_of (S : Shown P T vs B0) (X : T.K.In H0) (hng : ∃ mg mb, H0.Ns mainGlobals mg ∧ H0.Ns builtinsNs mb ∧ ∀ x : Str, x ≠ "__name__" → mb x = bootBuiltins x) (hnl : H0.NoLimit) (hs : ∀ n, T.hs n = PyData.keyHash w.params n) : Tab (sysOf prog w S X hng hnl hs) := by
  have c4 := and_r (and_r (and_r S.chk))
  have a3 := and_r (and_r S.apart)
  have hex : ∀ p ∈ P.funs, exFn P T p.2 (bodyOf T p.1) = bodyOf T p.1 := zip_all (g := fun p : Nat × MF => bodyOf T p.1) (e := fun (p : Nat × MF) b => exFn P T p.2 b) (by rw [S.bodies]; exact S.ex)
  have key : ∀ {f m}, flook f P.funs = some m → ∃ fd body, FnAt T H0 f m.npar fd body (vs f) ∧ okFn P T (vs f) fd body m = true ∧ exFn P T m body = body := fun {f m} e => by
    obtain ⟨⟨fd, body⟩, h1, h2⟩ := any_some (List.all_eq_true.mp c4 (f, m) (flook_mem e))
    have h3 := hex (f, m) (flook_mem e)
    unfold bodyOf at h3
    rw [show fnAt T (f, m).1 = _ from h1] at h3
    exact ⟨fd, body, fnShape_of X h1 (and_l h2), and_r h2, h3⟩
  refine ⟨fun f np nv b e => ?_, fun f np nv ci es e hn => ?_, fun ci k hk hrec => ?_⟩
  · obtain ⟨fd, body, FA, h1, h2⟩ := key e
    exact ⟨fd, body, vs f, FA, h1, h2⟩
  · have h := List.all_eq_true.mp (and_l a3) _ (flook_mem e)
    obtain ⟨k, hk, h⟩ := any_some h
    exact hn ci k hk (and_l h) (beq_iff_eq.mp (and_r h))
  · obtain ⟨_, _, h⟩ := chkRow_of (and_r a3) hk
    obtain ⟨⟨np, nv, fk⟩, hm, h⟩ := any_some ((or_of h).resolve_left fun q => nomatch hrec.symm.trans (not_t q))
    cases fk with
    | body => cases h
    | record cj es =>
      cases of_decide_eq_true h
      obtain ⟨fd, body, FA, h1, h2⟩ := key hm
      obtain ⟨k', hk', h1⟩ := any_some h1
      obtain ⟨self, hself, h1⟩ := any_some h1
      cases hk.symm.trans hk'
      have g2 := and_r h1
      have h2' : (match P.cls[ci]? with | some k => exRec T k.flds es body | none => []) = body := h2
      rw [show P.cls[ci]? = some k from hk] at h2'
      exact ⟨np, nv, es, fd, body, vs k.init, self, hm, FA, (List.head?_eq_getElem? ▸ hself), not_t (and_l g2), of_decide_eq_true (and_l (and_r g2)), and_r (and_r g2), h2'⟩
end
theorem law_ends {Y : Sys} (B : Tab Y) {s₁ : Shared} (hH : Y.H0 = s₁.heap) {lf fa sl : Addr} {d : Nat} {x : Str} {vs : List Value} {ns : List Int} {H' : MH} (hf : flook lf Y.T.fadr = some fa) (hx : Y.T.gl.lookup x = some (.fn lf))
    (hg : s₁.heap.get? sl = some (listOf vs.toArray 0)) (hI : IntsAre vs ns) (hl : ns.length ≤ 1000) (hd : d ≤ 250) (hr : callN Y.P d lf [.list (ns.map .int)] [] = .ok (.bool true) H') :
    codeAny Y.M callerA (.call (.ref fa) ⟨[.ref sl], []⟩) (fun r s' => r = .ok (.ret (.bool true)) ∧ (∀ b o, s₁.heap.get? b = some o → s'.heap.get? b = some o) ∧ s'.os = s₁.os ∧ s'.gens = s₁.gens) s₁ := by
  let c : Cf := { Z := s₁.heap.get?, Mu := fun _ => none, φ := [], H := [], s := s₁ }
  have K : c.Ok Y := ⟨⟨fun _ _ e => e, (fun _ _ e => nomatch e), (fun _ _ e => nomatch e)⟩, ⟨rfl, (fun i o e => by cases (List.getElem?_nil (i := i)).symm.trans e), .nil⟩, hH ▸ ZLe.refl⟩
  obtain ⟨CO, _⟩ := call_all B d 301 4 (by omega) (by omega)
  have hv : VRs Y c.Z c.φ [.list (ns.map .int)] [.ref sl] := ⟨_, [], rfl, ⟨sl, vs, 0, rfl, hg, ints_vrs hI, by rw [List.length_map]; exact Nat.le_trans hl (by decide)⟩, rfl⟩
  refine codeAny_mono (CO lf fa _ _ c callerA [] hf (Y.rfun x lf hx) K hv (fun _ h => nomatch h) ⟨rfl, rfl, by decide, by decide⟩ (fun v s' => v = .bool true ∧ (∀ b o, s₁.heap.get? b = some o → s'.heap.get? b = some o) ∧ s'.os = s₁.os ∧ s'.gens = s₁.gens) (fun _ _ => False)
    ⟨(fun q => nomatch q.symm.trans hr), fun c' v m k s e r => ?_, fun c' k e a C B a0 _ _ e' _ => (nomatch hr.symm.trans e')⟩) fun r s' h => ?_
  · cases hr.symm.trans e
    have q : rest c'.s = rest s₁ := s.t
    exact ⟨r, fun b o e => k.inv.z _ _ (s.z _ _ e), congrArg (fun z => z.2.1) q, congrArg (fun z => z.1) q⟩
  · cases r with
    | error e => exact h.elim
    | ok f => cases f with
      | ret v => exact ⟨congrArg (fun v => Except.ok (Flow.ret v)) h.1, h.2⟩
      | _ => exact h.elim
theorem list_at {P : Params} {h : Heap} {a : Addr} {vs : List Value} {xs : List WData} (hw : Well P h (.ref a) (.list xs)) (hl : h.IsList a vs.toArray) : h.get? a = some (listOf vs.toArray 0) := by
  cases hw with
  | list e _ =>
    obtain ⟨o, ho, hc, n, hd⟩ := hl
    rw [e] at ho
    cases ho
    injection hd with h1 h2
    rw [e, ← h1]
end Mini
end
namespace R
open Mini
noncomputable def f0 : MF := ⟨1, 2, .body (.cons (.ife (.or (.cons (.cmp (.var 0) (.one .lt (.int 0))) (.cons (.cmp (.var 0) (.one .gt (.gint 0 18446744073709551615))) .nil))) (.cons (.raise 2 (.cons (.var 0) (.cons (.gint 0 18446744073709551615) .nil)))
    .nil) .nil)
    (.cons (.assign 1 (.int 1))
    (.cons (.whil 100 (.cmp (.var 0) (.one .ge (.int 128))) (.cons .bad
    (.cons (.aug 1 .add (.int 1))
    .nil)))
    (.cons (.ret (.var 1))
    .nil))))⟩
noncomputable def f1 : MF := ⟨1, 3, .body (.cons (.accNew 1 .nil)
    (.cons (.forr 2 (.sorted (.var 0)) (.cons (.ife (.or (.cons (.not (.acc 1)) (.cons (.cmp (.accLast 1) (.one .ne (.var 2))) .nil))) (.cons (.accApp 1 (.var 2))
    .nil) .nil)
    .nil))
    (.cons (.freeze 1)
    (.cons (.ret (.var 1))
    .nil))))⟩
noncomputable def f2 : MF := ⟨5, 5, .record 0 (.cons (.var 1) (.cons (.var 2) (.cons (.var 3) (.cons (.var 4) .nil))))⟩
noncomputable def f3 : MF := ⟨1, 1, .body (.cons (.ret (.tup (.cons (.attr (.var 0) 0) (.cons (.attr (.var 0) 1) (.cons (.attr (.var 0) 2) (.cons (.attr (.var 0) 3) .nil))))))
    .nil)⟩
noncomputable def f4 : MF := ⟨1, 3, .body (.cons (.assign 1 (.len (.attr (.var 0) 3)))
    (.cons (.assign 2 (.bin .add (.bin .add (.call 0 (.cons (.attr (.var 0) 0) .nil)) (.call 0 (.cons (.attr (.var 0) 1) .nil))) (.call 0 (.cons (.attr (.var 0) 2) .nil))))
    (.cons (.ret (.bin .add (.bin .add (.var 2) (.call 0 (.cons (.var 1) .nil))) (.var 1)))
    .nil)))⟩
noncomputable def f5 : MF := ⟨2, 5, .body (.cons (.assign 2 (.int 0))
    (.cons (.accNew 3 .nil)
    (.cons (.forr 4 (.over (.var 0)) (.cons (.aug 2 .add (.meth (.var 4) 27 .nil))
    (.cons (.ife (.and (.cons (.acc 3) (.cons (.cmp (.var 2) (.one .gt (.var 1))) .nil))) (.cons .brk
    .nil) .nil)
    (.cons (.accApp 3 (.var 4))
    .nil))))
    (.cons (.freeze 3)
    (.cons (.ret (.var 3))
    .nil)))))⟩
noncomputable def f6 : MF := ⟨4, 4, .record 1 (.cons (.var 1) (.cons (.var 2) (.cons (.var 3) .nil)))⟩
noncomputable def f7 : MF := ⟨1, 1, .body (.cons (.ret (.tup (.cons (.attr (.var 0) 0) (.cons (.attr (.var 0) 4) (.cons (.attr (.var 0) 5) .nil)))))
    .nil)⟩
noncomputable def f8 : MF := ⟨1, 1, .body (.cons (.ret (.and (.cons (.cmp (.attr (.var 0) 0) (.one .eq (.int 0))) (.cons (.cmp (.attr (.var 0) 4) (.one .eq (.gint 1 0))) (.cons (.cmp (.attr (.var 0) 5) (.one .eq (.int 0))) .nil)))))
    .nil)⟩
noncomputable def f9 : MF := ⟨6, 6, .record 2 (.cons (.call 1 (.cons (.var 1) .nil)) (.cons (.call 1 (.cons (.var 2) .nil)) (.cons (.call 1 (.cons (.var 3) .nil)) (.cons (.call 1 (.cons (.var 4) .nil)) (.cons (.var 5) .nil)))))⟩
noncomputable def f10 : MF := ⟨1, 1, .body (.cons (.ret (.tup (.cons (.tupleOf (.attr (.var 0) 6)) (.cons (.tupleOf (.attr (.var 0) 7)) (.cons (.tupleOf (.attr (.var 0) 8)) (.cons (.tupleOf (.attr (.var 0) 9)) (.cons (.attr (.var 0) 10) .nil)))))))
    .nil)⟩
noncomputable def f11 : MF := ⟨5, 5, .record 3 (.cons (.var 1) (.cons (.var 2) (.cons (.var 3) (.cons (.var 4) .nil))))⟩
noncomputable def f12 : MF := ⟨1, 1, .body (.cons (.ret (.tup (.cons (.attr (.var 0) 1) (.cons (.attr (.var 0) 0) (.cons (.meth (.attr (.var 0) 11) 24 .nil) (.cons (.attr (.var 0) 3) .nil))))))
    .nil)⟩
noncomputable def f13 : MF := ⟨1, 1, .body (.cons (.ret (.cmp (.attr (.var 0) 1) (.one .eq (.int 0))))
    .nil)⟩
noncomputable def f14 : MF := ⟨2, 3, .body (.cons (.assign 2 (.int 0))
    (.cons (.ife (.cmp (.len (.attr (.var 1) 6)) (.one .gt (.int 0))) (.cons (.assign 2 (.int 1))
    .nil) .nil)
    (.cons (.setAttr (.var 0) 12 (.new 1 (.cons (.var 2) (.cons (.int 0) (.cons (.var 2) .nil)))))
    (.cons (.setAttr (.var 0) 11 (.var 1))
    (.cons (.setAttr (.var 0) 13 (.new 3 (.cons (.var 2) (.cons (.var 2) (.cons (.var 1) (.cons .bnil .nil))))))
    (.cons (.setAttr (.var 0) 14 (.var 2))
    (.cons (.setAttr (.var 0) 15 (.var 2))
    (.cons (.setAttr (.var 0) 16 (.list .nil))
    .nil))))))))⟩
noncomputable def f15 : MF := ⟨1, 1, .body (.cons (.ret (.bin .add (.attr (.var 0) 14) (.int 1)))
    .nil)⟩
noncomputable def f16 : MF := ⟨1, 1, .body (.cons (.ret (.bin .add (.attr (.var 0) 14) (.len (.attr (.var 0) 16))))
    .nil)⟩
noncomputable def f17 : MF := ⟨4, 5, .body (.cons (.ife (.cmp (.var 1) (.one .le (.attr (.var 0) 14))) (.cons (.raise 4 (.cons (.var 1) (.cons (.attr (.var 0) 14) .nil)))
    .nil) .nil)
    (.cons (.ife (.cmp (.var 2) (.one .gt (.bin .add (.meth (.var 0) 32 .nil) (.int 1)))) (.cons (.raise 5 (.cons (.var 2) (.cons (.meth (.var 0) 32 .nil) .nil)))
    .nil) .nil)
    (.cons (.ife (.cmp (.var 2) (.one .le (.var 1))) (.cons (.ret (.list .nil))
    .nil) .nil)
    (.cons (.assign 4 (.meth (.var 0) 31 .nil))
    (.cons (.ret (.call 5 (.cons (.sliceLU (.attr (.var 0) 16) (.bin .sub (.var 1) (.var 4)) (.bin .sub (.var 2) (.var 4))) (.cons (.var 3) .nil))))
    .nil)))))⟩
noncomputable def f18 : MF := ⟨2, 2, .body (.cons (.ife (.cmp (.var 1) (.one .lt (.attr (.var 0) 14))) (.cons (.raise 4 (.cons (.var 1) (.cons (.attr (.var 0) 14) .nil)))
    .nil) .nil)
    (.cons (.ife (.cmp (.var 1) (.one .gt (.meth (.var 0) 32 .nil))) (.cons (.raise 5 (.cons (.var 1) (.cons (.meth (.var 0) 32 .nil) .nil)))
    .nil) .nil)
    (.cons (.ife (.cmp (.var 1) (.one .eq (.attr (.var 0) 14))) (.cons (.ret (.attr (.var 0) 15))
    .nil) .nil)
    (.cons (.ret (.attr (.idx (.attr (.var 0) 16) (.bin .sub (.var 1) (.meth (.var 0) 31 .nil))) 0))
    .nil))))⟩
noncomputable def f19 : MF := ⟨2, 5, .body (.cons (.ife (.cmp (.len (.var 1)) (.one .eq (.int 0))) (.cons (.ret .none)
    .nil) .nil)
    (.cons (.assign 2 (.attr (.idx (.var 1) (.int 0)) 1))
    (.cons (.forr 3 (.range1 (.len (.var 1))) (.cons (.ife (.cmp (.attr (.idx (.var 1) (.var 3)) 1) (.one .ne (.bin .add (.var 2) (.var 3)))) (.cons (.raise 7 (.cons (.attr (.idx (.var 1) (.var 3)) 1) (.cons (.bin .add (.var 2) (.var 3)) .nil)))
    .nil) .nil)
    .nil))
    (.cons (.assign 4 (.meth (.var 0) 31 .nil))
    (.cons (.ife (.cmp (.bin .sub (.bin .add (.var 2) (.len (.var 1))) (.int 1)) (.one .lt (.var 4))) (.cons (.ret .none)
    .nil) .nil)
    (.cons (.ife (.cmp (.var 2) (.one .gt (.bin .add (.meth (.var 0) 32 .nil) (.int 1)))) (.cons (.raise 7 (.cons (.var 2) (.cons (.meth (.var 0) 32 .nil) .nil)))
    .nil) .nil)
    (.cons (.ife (.cmp (.var 2) (.one .lt (.var 4))) (.cons (.assign 1 (.sliceL (.var 1) (.bin .sub (.var 4) (.var 2))))
    (.cons (.assign 2 (.var 4))
    .nil)) .nil)
    (.cons (.setAttr (.var 0) 16 (.bin .add (.sliceU (.attr (.var 0) 16) (.bin .sub (.var 2) (.var 4))) (.var 1)))
    .nil))))))))⟩
noncomputable def f20 : MF := ⟨2, 3, .body (.cons (.ife (.cmp (.var 1) (.one .le (.attr (.var 0) 14))) (.cons (.raise 4 (.cons (.var 1) (.cons (.attr (.var 0) 14) .nil)))
    .nil) .nil)
    (.cons (.ife (.cmp (.var 1) (.one .gt (.meth (.var 0) 32 .nil))) (.cons (.raise 9 (.cons (.var 1) (.cons (.meth (.var 0) 32 .nil) .nil)))
    .nil) .nil)
    (.cons (.assign 2 (.meth (.var 0) 34 (.cons (.var 1) .nil)))
    (.cons (.setAttr (.var 0) 16 (.sliceL (.attr (.var 0) 16) (.bin .sub (.var 1) (.attr (.var 0) 14))))
    (.cons (.setAttr (.var 0) 14 (.var 1))
    (.cons (.setAttr (.var 0) 15 (.var 2))
    .nil))))))⟩
noncomputable def f21 : MF := ⟨1, 3, .body (.cons (.accNew 1 .nil)
    (.cons (.forr 2 (.over (.attr (.var 0) 16)) (.cons (.accApp 1 (.meth (.var 2) 24 .nil))
    .nil))
    (.cons (.freeze 1)
    (.cons (.ret (.tup (.cons (.meth (.attr (.var 0) 12) 24 .nil) (.cons (.attr (.var 0) 14) (.cons (.attr (.var 0) 15) (.cons (.tupleOf (.var 1)) (.cons (.meth (.attr (.var 0) 13) 24 .nil) .nil)))))))
    .nil))))⟩
noncomputable def f22 : MF := ⟨2, 2, .body (.cons (.setAttr (.var 0) 17 .none)
    (.cons (.setAttr (.var 0) 16 (.list .nil))
    (.cons (.setAttr (.var 0) 18 (.var 1))
    .nil)))⟩
noncomputable def f23 : MF := ⟨1, 1, .body (.cons (.ife (.notNone (.attr (.var 0) 17)) (.cons (.ret (.bin .add (.attr (.attr (.var 0) 17) 1) (.int 1)))
    .nil) .nil)
    (.cons (.ret .none)
    .nil))⟩
noncomputable def f24 : MF := ⟨1, 1, .body (.cons (.ife (.cmp (.len (.attr (.var 0) 16)) (.one .gt (.int 0))) (.cons (.ret (.bin .sub (.bin .add (.attr (.var 0) 18) (.len (.attr (.var 0) 16))) (.int 1)))
    .nil) .nil)
    (.cons (.ife (.notNone (.attr (.var 0) 17)) (.cons (.ret (.bin .sub (.attr (.var 0) 18) (.int 1)))
    .nil) .nil)
    (.cons (.ret .none)
    .nil)))⟩
noncomputable def f25 : MF := ⟨2, 2, .body (.cons (.ife (.cmp (.var 1) (.one .lt (.attr (.var 0) 18))) (.cons (.ife (.and (.cons (.notNone (.attr (.var 0) 17)) (.cons (.cmp (.attr (.attr (.var 0) 17) 1) (.one .eq (.var 1))) .nil))) (.cons (.ret (.attr (.attr (.var 0) 17) 0))
    .nil) .nil)
    (.cons (.ret .none)
    .nil)) .nil)
    (.cons (.ife (.cmp (.var 1) (.one .ge (.bin .add (.attr (.var 0) 18) (.len (.attr (.var 0) 16))))) (.cons (.ret .none)
    .nil) .nil)
    (.cons (.ret (.attr (.idx (.attr (.var 0) 16) (.bin .sub (.var 1) (.attr (.var 0) 18))) 0))
    .nil)))⟩
noncomputable def f26 : MF := ⟨2, 2, .body (.cons (.setAttr (.var 0) 18 (.bin .add (.attr (.var 1) 1) (.int 1)))
    (.cons (.setAttr (.var 0) 16 (.list .nil))
    (.cons (.setAttr (.var 0) 17 (.var 1))
    .nil)))⟩
noncomputable def f27 : MF := ⟨2, 3, .body (.cons (.ife (.cmp (.len (.var 1)) (.one .eq (.int 0))) (.cons (.ret .none)
    .nil) .nil)
    (.cons (.assign 2 (.attr (.idx (.var 1) (.int 0)) 1))
    (.cons (.ife (.cmp (.var 2) (.one .eq (.bin .add (.attr (.var 0) 18) (.len (.attr (.var 0) 16))))) (.cons (.setAttr (.var 0) 16 (.bin .add (.attr (.var 0) 16) (.var 1)))
    .nil) (.cons (.ife (.cmp (.var 2) (.one .le (.attr (.var 0) 18))) (.cons (.setAttr (.var 0) 18 (.var 2))
    (.cons (.setAttr (.var 0) 16 (.sliceA (.var 1)))
    .nil)) (.cons (.ife (.cmp (.var 2) (.one .lt (.bin .add (.attr (.var 0) 18) (.len (.attr (.var 0) 16))))) (.cons (.setAttr (.var 0) 16 (.bin .add (.meth (.var 0) 47 (.cons (.attr (.var 0) 18) (.cons (.var 2) .nil))) (.var 1)))
    .nil) (.cons (.raise 9 (.cons (.var 2) (.cons (.bin .sub (.bin .add (.attr (.var 0) 18) (.len (.attr (.var 0) 16))) (.int 1)) .nil)))
    .nil))
    .nil))
    .nil))
    .nil)))⟩
noncomputable def f28 : MF := ⟨3, 3, .body (.cons (.ife (.cmp (.var 1) (.one .gt (.var 2))) (.cons (.raise 9 (.cons (.var 1) (.cons (.var 2) .nil)))
    .nil) .nil)
    (.cons (.ife (.or (.cons (.cmp (.var 1) (.one .lt (.attr (.var 0) 18))) (.cons (.cmp (.var 2) (.one .gt (.bin .add (.attr (.var 0) 18) (.len (.attr (.var 0) 16))))) .nil))) (.cons (.raise 9 (.cons (.var 1) (.cons (.var 2) (.cons (.attr (.var 0) 18) (.cons (.bin .add (.attr (.var 0) 18) (.len (.attr (.var 0) 16))) .nil)))))
    .nil) .nil)
    (.cons (.ret (.sliceLU (.attr (.var 0) 16) (.bin .sub (.var 1) (.attr (.var 0) 18)) (.bin .sub (.var 2) (.attr (.var 0) 18))))
    .nil)))⟩
noncomputable def f29 : MF := ⟨1, 4, .body (.cons (.accNew 1 .nil)
    (.cons (.forr 2 (.over (.attr (.var 0) 16)) (.cons (.accApp 1 (.meth (.var 2) 24 .nil))
    .nil))
    (.cons (.assign 3 .none)
    (.cons (.ife (.notNone (.attr (.var 0) 17)) (.cons (.assign 3 (.meth (.attr (.var 0) 17) 24 .nil))
    .nil) .nil)
    (.cons (.freeze 1)
    (.cons (.ret (.tup (.cons (.attr (.var 0) 18) (.cons (.tupleOf (.var 1)) (.cons (.var 3) .nil)))))
    .nil))))))⟩
noncomputable def f30 : MF := ⟨3, 4, .body (.cons (.setAttr (.var 0) 19 (.var 1))
    (.cons (.setAttr (.var 0) 20 (.var 2))
    (.cons (.assign 3 (.meth (.var 1) 31 .nil))
    (.cons (.setAttr (.var 0) 21 (.new 5 (.cons (.bin .add (.meth (.var 1) 32 .nil) (.int 1)) .nil)))
    (.cons (.setAttr (.var 0) 22 (.bin .sub (.var 3) (.int 1)))
    (.cons (.setAttr (.var 0) 23 (.bin .sub (.var 3) (.int 1)))
    .nil))))))⟩
noncomputable def f31 : MF := ⟨1, 2, .body (.cons (.assign 1 (.meth (.attr (.var 0) 21) 40 .nil))
    (.cons (.ife (.notNone (.var 1)) (.cons (.ret (.var 1))
    .nil) .nil)
    (.cons (.ret (.meth (.attr (.var 0) 19) 31 .nil))
    .nil)))⟩
noncomputable def f32 : MF := ⟨1, 2, .body (.cons (.assign 1 (.meth (.attr (.var 0) 21) 41 .nil))
    (.cons (.ife (.notNone (.var 1)) (.cons (.ret (.var 1))
    .nil) .nil)
    (.cons (.ret (.meth (.attr (.var 0) 19) 32 .nil))
    .nil)))⟩
noncomputable def f33 : MF := ⟨1, 1, .body (.cons (.tryy (.cons (.ret (.meth (.var 0) 0 (.cons (.meth (.var 0) 32 .nil) .nil)))
    .nil) (.cons [4, 5] [.bad] .nil))
    .nil)⟩
noncomputable def f34 : MF := ⟨2, 3, .body (.cons (.assign 2 (.meth (.attr (.var 0) 21) 42 (.cons (.var 1) .nil)))
    (.cons (.ife (.notNone (.var 2)) (.cons (.ret (.var 2))
    .nil) .nil)
    (.cons (.ife (.cmp (.bin .add (.var 1) (.int 1)) (.one .lt (.meth (.var 0) 31 .nil))) (.cons (.raise 4 (.cons (.var 1) (.cons (.meth (.var 0) 31 .nil) .nil)))
    .nil) .nil)
    (.cons (.ife (.cmp (.var 1) (.one .gt (.meth (.var 0) 32 .nil))) (.cons (.raise 5 (.cons (.var 1) (.cons (.meth (.var 0) 32 .nil) .nil)))
    .nil) .nil)
    (.cons (.ret (.meth (.attr (.var 0) 19) 34 (.cons (.var 1) .nil)))
    .nil)))))⟩
noncomputable def f35 : MF := ⟨3, 3, .body (.cons (.tryy (.cons (.ret (.cmp (.meth (.var 0) 0 (.cons (.var 1) .nil)) (.one .eq (.var 2))))
    .nil) (.cons [4, 5] [.ret .ff] .nil))
    .nil)⟩
noncomputable def f36 : MF := ⟨5, 8, .body (.cons (.ife (.not (.e (.meth (.var 0) 50 (.cons (.var 1) (.cons (.var 2) .nil))))) (.cons (.ret .none)
    .nil) .nil)
    (.cons (.forr 5 (.range1 (.len (.var 4))) (.cons (.ife (.cmp (.attr (.idx (.var 4) (.var 5)) 1) (.one .ne (.bin .add (.bin .add (.var 1) (.int 1)) (.var 5)))) (.cons (.raise 7 (.cons (.attr (.idx (.var 4) (.var 5)) 1) (.cons (.bin .add (.bin .add (.var 1) (.int 1)) (.var 5)) .nil)))
    .nil) .nil)
    .nil))
    (.cons (.assign 6 (.bin .add (.var 1) (.len (.var 4))))
    (.cons (.assign 7 (.meth (.var 0) 53 (.cons (.var 4) .nil)))
    (.cons (.ife (.cmp (.var 7) (.one .ne (.int 0))) (.cons (.ife (.cmp (.var 7) (.one .le (.attr (.var 0) 22))) (.cons (.raise 9 (.cons (.var 7) (.cons (.attr (.var 0) 22) .nil)))
    .nil) .nil)
    (.cons (.expr (.meth (.var 0) 36 (.cons (.sliceL (.var 4) (.bin .sub (.var 7) (.bin .add (.var 1) (.int 1)))) .nil)))
    .nil)) .nil)
    (.cons (.expr (.meth (.var 0) 55 (.cons (.min2 (.var 3) (.var 6)) .nil)))
    (.cons (.ret (.var 6))
    .nil)))))))⟩
noncomputable def f37 : MF := ⟨2, 3, .body (.cons (.ife (.cmp (.len (.var 1)) (.one .eq (.int 0))) (.cons (.ret (.meth (.var 0) 32 .nil))
    .nil) .nil)
    (.cons (.assign 2 (.bin .sub (.attr (.idx (.var 1) (.int 0)) 1) (.int 1)))
    (.cons (.ife (.cmp (.var 2) (.one .lt (.attr (.var 0) 22))) (.cons (.raise 9 (.cons (.var 2) (.cons (.attr (.var 0) 22) .nil)))
    .nil) .nil)
    (.cons (.ife (.cmp (.var 2) (.one .gt (.meth (.var 0) 32 .nil))) (.cons (.raise 7 (.cons (.var 2) (.cons (.meth (.var 0) 32 .nil) .nil)))
    .nil) .nil)
    (.cons (.expr (.meth (.attr (.var 0) 21) 46 (.cons (.var 1) .nil)))
    (.cons (.ret (.meth (.var 0) 32 .nil))
    .nil))))))⟩
noncomputable def f38 : MF := ⟨2, 3, .body (.cons (.forr 2 (.over (.var 1)) (.cons (.ife (.not (.e (.meth (.var 0) 50 (.cons (.attr (.var 2) 1) (.cons (.attr (.var 2) 0) .nil))))) (.cons (.ret (.attr (.var 2) 1))
    .nil) .nil)
    .nil))
    (.cons (.ret (.int 0))
    .nil))⟩
noncomputable def f39 : MF := ⟨3, 4, .body (.cons (.whil 100 (.cmp (.var 1) (.one .gt (.int 0))) (.cons (.tryy (.cons (.assign 3 (.meth (.var 0) 0 (.cons (.var 1) .nil)))
    .nil) (.cons [4, 5] [.ret (.pair (.var 1) (.int 0))] .nil))
    (.cons (.ife (.cmp (.var 3) (.one .le (.var 2))) (.cons (.ret (.tup (.cons (.var 1) (.cons (.var 3) .nil))))
    .nil) .nil)
    (.cons (.aug 1 .sub (.int 1))
    .nil))))
    (.cons (.ret (.tup (.cons (.int 0) (.cons (.int 0) .nil))))
    .nil))⟩
noncomputable def f40 : MF := ⟨2, 2, .body (.cons (.ife (.cmp (.attr (.var 1) 1) (.one .lt (.attr (.var 0) 22))) (.cons (.raise 8 (.cons (.attr (.var 1) 1) (.cons (.attr (.var 0) 22) .nil)))
    .nil) .nil)
    (.cons (.setAttr (.var 0) 22 (.attr (.var 1) 1))
    (.cons (.expr (.meth (.attr (.var 0) 21) 45 (.cons (.var 1) .nil)))
    .nil)))⟩
noncomputable def f41 : MF := ⟨2, 2, .body (.cons (.ife (.cmp (.var 1) (.one .le (.attr (.var 0) 22))) (.cons (.ret .none)
    .nil) .nil)
    (.cons (.ife (.cmp (.var 1) (.one .gt (.meth (.var 0) 32 .nil))) (.cons (.raise 9 (.cons (.var 1) (.cons (.meth (.var 0) 32 .nil) .nil)))
    .nil) .nil)
    (.cons (.setAttr (.var 0) 22 (.var 1))
    .nil)))⟩
noncomputable def f42 : MF := ⟨1, 1, .body (.cons (.ret (.sliceA (.attr (.attr (.var 0) 21) 16)))
    .nil)⟩
noncomputable def f43 : MF := ⟨1, 1, .body (.cons (.ret (.and (.cons (.notNone (.attr (.attr (.var 0) 21) 17)) (.cons (.not (.meth (.attr (.attr (.var 0) 21) 17) 28 .nil)) .nil))))
    .nil)⟩
noncomputable def f44 : MF := ⟨3, 3, .body (.cons (.ife (.cmp (.var 1) (.one .gt (.meth (.var 0) 32 .nil))) (.cons (.ret (.list .nil))
    .nil) .nil)
    (.cons (.ret (.meth (.var 0) 64 (.cons (.var 1) (.cons (.bin .add (.meth (.var 0) 32 .nil) (.int 1)) (.cons (.var 2) .nil)))))
    .nil))⟩
noncomputable def f45 : MF := ⟨1, 1, .body (.cons (.ret (.meth (.var 0) 16 (.cons (.meth (.var 0) 31 .nil) (.cons (.gint 2 18446744073709551615) .nil))))
    .nil)⟩
noncomputable def f46 : MF := ⟨4, 7, .body (.cons (.ife (.cmp (.var 1) (.one .gt (.var 2))) (.cons (.raise 9 (.cons (.var 1) (.cons (.var 2) .nil)))
    .nil) .nil)
    (.cons (.ife (.cmp (.var 1) (.one .lt (.meth (.var 0) 31 .nil))) (.cons (.raise 4 (.cons (.var 1) (.cons (.meth (.var 0) 31 .nil) .nil)))
    .nil) .nil)
    (.cons (.ife (.cmp (.var 2) (.one .gt (.bin .add (.meth (.var 0) 32 .nil) (.int 1)))) (.cons (.raise 9 (.cons (.var 2) (.cons (.meth (.var 0) 32 .nil) .nil)))
    .nil) .nil)
    (.cons (.ife (.cmp (.var 1) (.one .eq (.var 2))) (.cons (.ret (.list .nil))
    .nil) .nil)
    (.cons (.assign 4 (.attr (.attr (.var 0) 21) 18))
    (.cons (.assign 5 (.list .nil))
    (.cons (.ife (.cmp (.var 1) (.one .lt (.var 4))) (.cons (.assign 6 (.min2 (.var 2) (.var 4)))
    (.cons (.tryy (.cons (.assign 5 (.meth (.attr (.var 0) 19) 33 (.cons (.var 1) (.cons (.var 6) (.cons (.var 3) .nil)))))
    .nil) (.cons [5] [.bad] .nil))
    (.cons (.ife (.cmp (.len (.var 5)) (.one .lt (.bin .sub (.var 6) (.var 1)))) (.cons (.ret (.var 5))
    .nil) .nil)
    .nil))) .nil)
    (.cons (.ife (.cmp (.var 2) (.one .gt (.var 4))) (.cons (.assign 5 (.bin .add (.var 5) (.meth (.attr (.var 0) 21) 47 (.cons (.max2 (.var 1) (.var 4)) (.cons (.var 2) .nil)))))
    .nil) .nil)
    (.cons (.ret (.call 5 (.cons (.var 5) (.cons (.var 3) .nil))))
    .nil)))))))))⟩
noncomputable def f47 : MF := ⟨1, 1, .body (.cons (.ret (.tup (.cons (.attr (.var 0) 22) (.cons (.attr (.var 0) 23) (.cons (.meth (.attr (.var 0) 21) 24 .nil) .nil)))))
    .nil)⟩
noncomputable def f48 : MF := ⟨1, 1, .body (.cons (.ife (.cmp (.attr (.attr (.var 0) 13) 1) (.one .lt (.attr (.var 0) 14))) (.cons (.raise 6 (.cons (.attr (.attr (.var 0) 13) 1) (.cons (.attr (.var 0) 14) .nil)))
    .nil) .nil)
    (.cons (.ret (.attr (.var 0) 13))
    .nil))⟩
noncomputable def f49 : MF := ⟨2, 2, .body (.cons (.ife (.or (.cons (.cmp (.attr (.var 1) 1) (.one .le (.attr (.attr (.var 0) 13) 1))) (.cons (.cmp (.attr (.var 1) 1) (.one .lt (.attr (.var 0) 14))) .nil))) (.cons (.raise 10 (.cons (.attr (.var 1) 1) .nil))
    .nil) .nil)
    (.cons (.setAttr (.var 0) 13 (.var 1))
    (.cons (.setAttr (.var 0) 11 (.attr (.var 1) 11))
    (.cons (.setAttr (.var 0) 14 (.attr (.var 1) 1))
    (.cons (.setAttr (.var 0) 15 (.attr (.var 1) 0))
    (.cons (.setAttr (.var 0) 16 (.list .nil))
    .nil))))))⟩
noncomputable def f50 : MF := ⟨4, 5, .body (.cons (.ife (.cmp (.var 1) (.one .le (.attr (.attr (.var 0) 13) 1))) (.cons (.raise 10 (.cons (.var 1) (.cons (.attr (.attr (.var 0) 13) 1) .nil)))
    .nil) .nil)
    (.cons (.ife (.cmp (.var 1) (.one .gt (.meth (.var 0) 32 .nil))) (.cons (.raise 9 (.cons (.var 1) (.cons (.meth (.var 0) 32 .nil) .nil)))
    .nil) .nil)
    (.cons (.assign 4 (.meth (.var 0) 34 (.cons (.var 1) .nil)))
    (.cons (.ife (.notNone (.var 2)) (.cons (.setAttr (.var 0) 11 (.var 2))
    .nil) .nil)
    (.cons (.setAttr (.var 0) 13 (.new 3 (.cons (.var 1) (.cons (.var 4) (.cons (.attr (.var 0) 11) (.cons (.var 3) .nil))))))
    (.cons (.ret (.attr (.var 0) 13))
    .nil))))))⟩
noncomputable def f51 : MF := ⟨3, 4, .body (.cons (.ife (.cmp (.var 1) (.one .lt (.attr (.var 0) 18))) (.cons (.ret .none)
    .nil) .nil)
    (.cons (.assign 3 (.meth (.var 0) 42 (.cons (.var 1) .nil)))
    (.cons (.ife (.or (.cons (.isNone (.var 3)) (.cons (.cmp (.var 3) (.one .ne (.var 2))) .nil))) (.cons (.ret .none)
    .nil) .nil)
    (.cons (.setAttr (.var 0) 16 (.sliceL (.attr (.var 0) 16) (.bin .sub (.bin .add (.var 1) (.int 1)) (.attr (.var 0) 18))))
    (.cons (.setAttr (.var 0) 18 (.bin .add (.var 1) (.int 1)))
    .nil)))))⟩
noncomputable def f52 : MF := ⟨2, 2, .body (.cons (.ife (.and (.cons (.notNone (.attr (.var 0) 17)) (.cons (.cmp (.attr (.attr (.var 0) 17) 1) (.one .eq (.var 1))) .nil))) (.cons (.setAttr (.var 0) 17 .none)
    .nil) .nil)
    .nil)⟩
noncomputable def f53 : MF := ⟨2, 2, .body (.cons (.tryy (.cons (.ret (.meth (.var 0) 0 (.cons (.var 1) .nil)))
    .nil) (.cons [4, 5] [.ret (.int 0)] .nil))
    .nil)⟩
noncomputable def f54 : MF := ⟨3, 4, .body (.cons (.assign 3 (.meth (.var 0) 48 .nil))
    (.cons (.ret (.or (.cons (.cmp (.var 2) (.one .gt (.var 3))) (.cons (.and (.cons (.cmp (.var 2) (.one .eq (.var 3))) (.cons (.cmp (.var 1) (.one .ge (.meth (.var 0) 32 .nil))) .nil))) .nil))))
    .nil))⟩
noncomputable def f55 : MF := ⟨3, 3, .body (.cons (.ife (.or (.cons (.cmp (.var 1) (.one .le (.attr (.var 0) 22))) (.cons (.cmp (.var 2) (.one .eq (.int 0))) (.cons (.cmp (.meth (.var 0) 49 (.cons (.var 1) .nil)) (.one .ne (.var 2))) .nil)))) (.cons (.ret .ff)
    .nil) .nil)
    (.cons (.expr (.meth (.var 0) 55 (.cons (.var 1) .nil)))
    (.cons (.ret .tt)
    .nil)))⟩
noncomputable def f56 : MF := ⟨2, 2, .body (.cons (.ife (.cmp (.var 1) (.one .eq (.int 0))) (.cons (.ret .none)
    .nil) .nil)
    (.cons (.ife (.or (.cons (.cmp (.var 1) (.one .gt (.attr (.var 0) 22))) (.cons (.cmp (.var 1) (.one .lt (.attr (.var 0) 23))) .nil))) (.cons (.raise 9 (.cons (.var 1) (.cons (.attr (.var 0) 23) (.cons (.attr (.var 0) 22) .nil))))
    .nil) .nil)
    (.cons (.setAttr (.var 0) 23 (.var 1))
    .nil)))⟩
noncomputable def f57 : MF := ⟨3, 3, .body (.cons (.expr (.meth (.attr (.var 0) 21) 43 (.cons (.var 1) (.cons (.var 2) .nil))))
    .nil)⟩
noncomputable def f58 : MF := ⟨2, 2, .body (.cons (.expr (.meth (.attr (.var 0) 21) 44 (.cons (.var 1) .nil)))
    .nil)⟩
noncomputable def f59 : MF := ⟨1, 1, .body (.cons (.ret (.max2 (.bin .add (.attr (.var 0) 23) (.int 1)) (.meth (.var 0) 31 .nil)))
    .nil)⟩
noncomputable def f60 : MF := ⟨1, 1, .body (.cons (.ife (.e (.meth (.var 0) 59 .nil)) (.cons (.ret .ff)
    .nil) .nil)
    (.cons (.ret (.cmp (.bin .add (.attr (.var 0) 22) (.int 1)) (.one .gt (.meth (.var 0) 60 .nil))))
    .nil))⟩
noncomputable def f61 : MF := ⟨1, 1, .body (.cons (.ife (.not (.e (.meth (.var 0) 61 .nil))) (.cons (.ret (.list .nil))
    .nil) .nil)
    (.cons (.ret (.meth (.var 0) 64 (.cons (.meth (.var 0) 60 .nil) (.cons (.bin .add (.attr (.var 0) 22) (.int 1)) (.cons (.attr (.var 0) 20) .nil)))))
    .nil))⟩
noncomputable def f62 : MF := ⟨1, 1, .body (.cons (.ife (.notNone (.attr (.attr (.var 0) 21) 17)) (.cons (.ret (.attr (.attr (.var 0) 21) 17))
    .nil) .nil)
    (.cons (.ret (.meth (.attr (.var 0) 19) 17 .nil))
    .nil))⟩
noncomputable def cls : List MCls := [
    ⟨true, [0, 1, 2, 3], 2, [(24, 3), (27, 4)]⟩,
    ⟨true, [0, 4, 5], 6, [(24, 7), (28, 8)]⟩,
    ⟨true, [6, 7, 8, 9, 10], 9, [(24, 10)]⟩,
    ⟨true, [1, 0, 11, 3], 11, [(24, 12), (28, 13)]⟩,
    ⟨false, [12, 11, 13, 14, 15, 16], 14, [(31, 15), (32, 16), (33, 17), (34, 18), (17, 48), (36, 19), (37, 49), (38, 50), (39, 20), (24, 21)]⟩,
    ⟨false, [17, 16, 18], 22, [(40, 23), (41, 24), (42, 25), (43, 51), (44, 52), (45, 26), (46, 27), (47, 28), (24, 29)]⟩,
    ⟨false, [19, 20, 21, 22, 23], 30, [(31, 31), (32, 32), (48, 33), (0, 34), (49, 53), (50, 35), (51, 54), (52, 36), (36, 37), (53, 38), (54, 39), (45, 40), (55, 41), (56, 55), (57, 56), (43, 57), (44, 58), (58, 42), (59, 43), (60, 59), (61, 60), (62, 61), (17, 62), (16, 44), (63, 45), (64, 46), (24, 47)]⟩]
noncomputable def sub (a b : Nat) : Bool := a == b || ([(1, 0), (2, 1), (2, 0), (3, 0), (4, 3), (4, 0), (5, 3), (5, 0), (6, 3), (6, 0), (7, 3), (7, 0), (8, 3), (8, 0), (9, 3), (9, 0), (10, 3), (10, 0)] : List (Nat × Nat)).contains (a, b)
end R
namespace P01
open Mini
noncomputable def S (s : String) : PySem.Str := PySem.Str.ofString s
noncomputable def names : List PySem.Str := [S "term", S "index", S "kind", S "data", S "vote", S "commit", S "voters", S "learners", S "outgoing", S "learners_next", S "auto_leave", S "conf", S "hard", S "snap", S "base_index", S "base_term", S "entries", S "snapshot", S "offset", S "storage", S "max_committed", S "unstable", S "committed", S "applied", S "row", S "copy", S "payload", S "size", S "empty", S "same", S "initial_state", S "first_index", S "last_index", S "entries_between", S "term_at", S "set_hard", S "append", S "apply_snapshot", S "create_snapshot", S "compact", S "maybe_first", S "maybe_last", S "maybe_term", S "stable_to", S "stable_snap_to", S "restore", S "truncate_and_append", S "part", S "last_term", S "term_or_zero", S "match_term", S "up_to_date", S "maybe_append", S "find_conflict", S "conflict_by_term", S "commit_to", S "maybe_commit", S "applied_to", S "unstable_entries", S "pending_snapshot", S "first_unapplied", S "has_next", S "next_committed", S "all_entries", S "slice", S "now", S "base", S "pending", S "kept", S "most", S "disk", S "disk_base", S "out"]
noncomputable def fnames : List (Nat × PySem.Str × List PySem.Str) := [(0, S "varint_length", [S "n", S "count"]),
  (1, S "rising", [S "ids", S "out", S "nid"]),
  (2, S "Entry.__init__", [S "self", S "term", S "index", S "kind", S "data"]),
  (3, S "Entry.row", [S "self"]),
  (4, S "Entry.size", [S "self", S "length", S "head"]),
  (5, S "limit_size", [S "entries", S "n", S "total", S "kept", S "entry"]),
  (6, S "HardState.__init__", [S "self", S "term", S "vote", S "commit"]),
  (7, S "HardState.row", [S "self"]),
  (8, S "HardState.empty", [S "self"]),
  (9, S "ConfState.__init__", [S "self", S "voters", S "learners", S "outgoing", S "learners_next", S "auto_leave"]),
  (10, S "ConfState.row", [S "self"]),
  (11, S "Snapshot.__init__", [S "self", S "index", S "term", S "conf", S "data"]),
  (12, S "Snapshot.row", [S "self"]),
  (13, S "Snapshot.empty", [S "self"]),
  (14, S "MemoryStorage.__init__", [S "self", S "conf", S "begin"]),
  (15, S "MemoryStorage.first_index", [S "self"]),
  (16, S "MemoryStorage.last_index", [S "self"]),
  (17, S "MemoryStorage.entries_between", [S "self", S "lo", S "hi", S "limit", S "first"]),
  (18, S "MemoryStorage.term_at", [S "self", S "i"]),
  (19, S "MemoryStorage.append", [S "self", S "entries", S "start", S "k", S "first"]),
  (20, S "MemoryStorage.compact", [S "self", S "i", S "term"]),
  (21, S "MemoryStorage.row", [S "self", S "rows", S "e"]),
  (22, S "Unstable.__init__", [S "self", S "offset"]),
  (23, S "Unstable.maybe_first", [S "self"]),
  (24, S "Unstable.maybe_last", [S "self"]),
  (25, S "Unstable.maybe_term", [S "self", S "i"]),
  (26, S "Unstable.restore", [S "self", S "snapshot"]),
  (27, S "Unstable.truncate_and_append", [S "self", S "entries", S "after"]),
  (28, S "Unstable.part", [S "self", S "lo", S "hi"]),
  (29, S "Unstable.row", [S "self", S "rows", S "e", S "snap"]),
  (30, S "RaftLog.__init__", [S "self", S "storage", S "max_committed", S "first"]),
  (31, S "RaftLog.first_index", [S "self", S "i"]),
  (32, S "RaftLog.last_index", [S "self", S "i"]),
  (33, S "RaftLog.last_term", [S "self"]),
  (34, S "RaftLog.term", [S "self", S "i", S "known"]),
  (35, S "RaftLog.match_term", [S "self", S "i", S "t"]),
  (36, S "RaftLog.maybe_append", [S "self", S "index", S "log_term", S "committed", S "entries", S "k", S "newest", S "conflict"]),
  (37, S "RaftLog.append", [S "self", S "entries", S "before"]),
  (38, S "RaftLog.find_conflict", [S "self", S "entries", S "e"]),
  (39, S "RaftLog.conflict_by_term", [S "self", S "index", S "term", S "mine"]),
  (40, S "RaftLog.restore", [S "self", S "snapshot"]),
  (41, S "RaftLog.commit_to", [S "self", S "i"]),
  (42, S "RaftLog.unstable_entries", [S "self"]),
  (43, S "RaftLog.pending_snapshot", [S "self"]),
  (44, S "RaftLog.entries", [S "self", S "i", S "limit"]),
  (45, S "RaftLog.all_entries", [S "self"]),
  (46, S "RaftLog.slice", [S "self", S "lo", S "hi", S "limit", S "offset", S "found", S "end"]),
  (47, S "RaftLog.row", [S "self"]),
  (48, S "MemoryStorage.snapshot", [S "self"]),
  (49, S "MemoryStorage.apply_snapshot", [S "self", S "snapshot"]),
  (50, S "MemoryStorage.create_snapshot", [S "self", S "i", S "conf", S "data", S "term"]),
  (51, S "Unstable.stable_to", [S "self", S "i", S "term", S "found"]),
  (52, S "Unstable.stable_snap_to", [S "self", S "i"]),
  (53, S "RaftLog.term_or_zero", [S "self", S "i"]),
  (54, S "RaftLog.up_to_date", [S "self", S "last", S "term", S "mine"]),
  (55, S "RaftLog.maybe_commit", [S "self", S "i", S "term"]),
  (56, S "RaftLog.applied_to", [S "self", S "i"]),
  (57, S "RaftLog.stable_to", [S "self", S "i", S "term"]),
  (58, S "RaftLog.stable_snap_to", [S "self", S "i"]),
  (59, S "RaftLog.first_unapplied", [S "self"]),
  (60, S "RaftLog.has_next", [S "self"]),
  (61, S "RaftLog.next_committed", [S "self"]),
  (62, S "RaftLog.snapshot", [S "self"]),
  (63, S "_law_draw", [S "script", S "place", S "limit"]),
  (64, S "_law_entries", [S "terms", S "lo", S "hi"]),
  (65, S "_law_rows", [S "terms", S "lo", S "hi"]),
  (66, S "_law_told", [S "entries"]),
  (67, S "_law_page", [S "terms", S "lo", S "hi", S "limit", S "room", S "end"]),
  (68, S "_law_leaders", [S "script", S "logs", S "k", S "n", S "parent", S "cut"]),
  (69, S "_law_agrees", [S "log", S "book", S "now", S "last"]),
  (70, S "_law_places", [S "log", S "book", S "lead", S "q", S "now", S "base", S "last", S "i", S "known", S "got", S "t", S "want", S "lower", S "begin", S "apart"]),
  (71, S "_law_reads", [S "log", S "book", S "q", S "now", S "base", S "last", S "kept", S "ready", S "limit", S "k", S "lo", S "hi", S "part", S "got", S "want"]),
  (72, S "_law_append", [S "log", S "book", S "lead", S "x", S "now", S "last", S "before", S "entries", S "term", S "commit", S "newest", S "holed", S "want", S "apart", S "got"]),
  (73, S "_law_put", [S "log", S "book", S "lead", S "x", S "now", S "last", S "before", S "entries", S "want", S "got"]),
  (74, S "_law_store", [S "log", S "storage", S "book", S "out"]),
  (75, S "_law_tell", [S "log", S "book", S "snap", S "base", S "last", S "term", S "count"]),
  (76, S "_law_mark", [S "log", S "book", S "way", S "x", S "now", S "committed", S "i", S "right", S "t", S "moved"]),
  (77, S "_law_restore", [S "log", S "book", S "lead", S "s"]),
  (78, S "law", [S "script", S "most", S "first", S "storage", S "log", S "logs", S "book", S "turn", S "n", S "x", S "way", S "lead", S "right", S "upto", S "q", S "stored"])]
noncomputable def f63 : MF := ⟨3, 3, .body (.cons (.ife (.cmp (.var 1) (.one .lt (.len (.var 0)))) (.cons (.ret (.bin .mod (.idx (.var 0) (.var 1)) (.var 2)))
    .nil) .nil)
    (.cons (.ret (.int 0))
    .nil))⟩
noncomputable def f64 : MF := ⟨3, 4, .body (.cons (.ret (.comp (.new 0 (.cons (.idx (.var 0) (.var 3)) (.cons (.var 3) (.cons (.int 0) (.cons (.bin .mul (.bytesOf (.list (.cons (.idx (.var 0) (.var 3)) .nil))) (.bin .mod (.var 3) (.int 3))) .nil))))) 3 (.range2 (.var 1) (.min2 (.var 2) (.len (.var 0))))))
    .nil)⟩
noncomputable def f65 : MF := ⟨3, 4, .body (.cons (.ret (.comp (.tup (.cons (.idx (.var 0) (.var 3)) (.cons (.var 3) (.cons (.int 0) (.cons (.bin .mul (.bytesOf (.list (.cons (.idx (.var 0) (.var 3)) .nil))) (.bin .mod (.var 3) (.int 3))) .nil))))) 3 (.range2 (.var 1) (.var 2))))
    .nil)⟩
noncomputable def f66 : MF := ⟨1, 2, .body (.cons (.ret (.comp (.meth (.var 1) 24 .nil) 1 (.over (.var 0))))
    .nil)⟩
noncomputable def f67 : MF := ⟨4, 6, .body (.cons (.assign 4 (.var 3))
    (.cons (.assign 5 (.var 1))
    (.cons (.whil 100 (.and (.cons (.cmp (.var 5) (.one .lt (.var 2))) (.cons (.or (.cons (.cmp (.var 5) (.one .eq (.var 1))) (.cons (.cmp (.var 4) (.one .ge (.bin .add (.int 4) (.bin .mod (.var 5) (.int 3))))) .nil))) .nil))) (.cons (.aug 4 .sub (.bin .add (.int 4) (.bin .mod (.var 5) (.int 3))))
    (.cons (.aug 5 .add (.int 1))
    .nil)))
    (.cons (.ret (.call 65 (.cons (.var 0) (.cons (.var 1) (.cons (.var 5) .nil)))))
    .nil))))⟩
noncomputable def f68 : MF := ⟨1, 6, .body (.cons (.accNew 1 (.cons (.bin .add (.list (.cons (.int 0) (.cons (.int 1) .nil))) (.bin .mul (.list (.cons (.int 1) .nil)) (.call 63 (.cons (.var 0) (.cons (.int 2) (.cons (.int 3) .nil)))))) .nil))
    (.cons (.forr 2 (.range2 (.int 1) (.int 4)) (.cons (.assign 3 (.call 63 (.cons (.var 0) (.cons (.bin .add (.int 2) (.var 2)) (.cons (.int 300) .nil)))))
    (.cons (.assign 4 (.accIdx 1 (.bin .mod (.var 3) (.var 2))))
    (.cons (.assign 5 (.bin .add (.int 2) (.bin .mod (.bin .fdiv (.var 3) (.int 3)) (.bin .sub (.len (.var 4)) (.int 1)))))
    (.cons (.accApp 1 (.bin .add (.sliceU (.var 4) (.var 5)) (.bin .mul (.list (.cons (.bin .add (.var 2) (.int 1)) .nil)) (.bin .add (.int 1) (.bin .mod (.bin .add (.bin .fdiv (.var 3) (.int 30)) (.int 2)) (.int 3))))))
    .nil)))))
    (.cons (.freeze 1)
    (.cons (.ret (.var 1))
    .nil))))⟩
noncomputable def f69 : MF := ⟨2, 4, .body (.cons (.assign 2 (.key (.var 1) 65))
    (.cons (.assign 3 (.bin .sub (.len (.var 2)) (.int 1)))
    (.cons (.ife (.cmp (.tup (.cons (.meth (.var 0) 31 .nil) (.cons (.meth (.var 0) 32 .nil) (.cons (.meth (.var 0) 48 .nil) .nil)))) (.one .ne (.tup (.cons (.bin .add (.key (.var 1) 66) (.int 1)) (.cons (.var 3) (.cons (.idx (.var 2) (.var 3)) .nil)))))) (.cons (.ret .ff)
    .nil) .nil)
    (.cons (.ret (.cmp (.tup (.cons (.attr (.var 0) 22) (.cons (.attr (.var 0) 23) (.cons (.meth (.var 0) 59 .nil) .nil)))) (.one .eq (.tup (.cons (.key (.var 1) 22) (.cons (.key (.var 1) 23) (.cons (.key (.var 1) 67) .nil)))))))
    .nil))))⟩
noncomputable def f70 : MF := ⟨4, 17, .body (.cons (.assign 4 (.key (.var 1) 65))
    (.cons (.assign 5 (.key (.var 1) 66))
    (.cons (.assign 6 (.bin .sub (.len (.var 4)) (.int 1)))
    (.cons (.assign 7 (.bin .mod (.var 3) (.bin .add (.var 6) (.int 3))))
    (.cons (.assign 8 (.cmp (.var 5) (.cons .le (.var 7) (.one .le (.var 6)))))
    (.cons (.tryy (.cons (.assign 9 (.meth (.var 0) 0 (.cons (.var 7) .nil)))
    .nil) (.cons [4] [.assign 9 (.neg 1)] (.cons [5] [.assign 9 (.neg 2)] .nil)))
    (.cons (.ife (.cmp (.var 9) (.one .ne (.ite (.e (.var 8)) (.idx (.var 4) (.var 7)) (.ite (.cmp (.var 7) (.one .lt (.var 5))) (.neg 1) (.neg 2))))) (.cons (.ret .ff)
    .nil) .nil)
    (.cons (.assign 10 (.bin .mod (.bin .fdiv (.var 3) (.int 7)) (.int 5)))
    (.cons (.ife (.cmp (.meth (.var 0) 50 (.cons (.var 7) (.cons (.var 10) .nil))) (.one .ne (.and (.cons (.var 8) (.cons (.cmp (.idx (.var 4) (.var 7)) (.one .eq (.var 10))) .nil))))) (.cons (.ret .ff)
    .nil) .nil)
    (.cons (.ife (.cmp (.meth (.var 0) 51 (.cons (.var 7) (.cons (.var 10) .nil))) (.one .ne (.cmp (.tup (.cons (.var 10) (.cons (.var 7) .nil))) (.one .ge (.tup (.cons (.idx (.var 4) (.var 6)) (.cons (.var 6) .nil))))))) (.cons (.ret .ff)
    .nil) .nil)
    (.cons (.assign 11 (.tup (.cons (.var 7) (.cons (.int 0) .nil))))
    (.cons (.ife (.e (.var 8)) (.cons (.assign 12 (.compIf (.var 15) 15 (.range2 (.max2 (.var 5) (.int 1)) (.bin .add (.var 7) (.int 1))) (.cmp (.idx (.var 4) (.var 15)) (.one .le (.var 10)))))
    (.cons (.assign 11 (.ite (.cmp (.len (.var 12)) (.one .gt (.int 0))) (.tup (.cons (.idx (.var 12) (.neg 1)) (.cons (.idx (.var 4) (.idx (.var 12) (.neg 1))) .nil))) (.tup (.cons (.max2 (.bin .sub (.var 5) (.int 1)) (.int 0)) (.cons (.int 0) .nil)))))
    .nil)) .nil)
    (.cons (.ife (.cmp (.meth (.var 0) 54 (.cons (.var 7) (.cons (.var 10) .nil))) (.one .ne (.var 11))) (.cons (.ret .ff)
    .nil) .nil)
    (.cons (.assign 13 (.bin .add (.int 1) (.bin .mod (.bin .fdiv (.var 3) (.int 3)) (.bin .sub (.len (.var 2)) (.int 1)))))
    (.cons (.assign 14 (.compIf (.var 16) 16 (.range2 (.var 13) (.len (.var 2))) (.or (.cons (.cmp (.var 16) (.one .lt (.var 5))) (.cons (.cmp (.var 16) (.one .gt (.var 6))) (.cons (.cmp (.idx (.var 4) (.var 16)) (.one .ne (.idx (.var 2) (.var 16)))) .nil))))))
    (.cons (.ret (.cmp (.meth (.var 0) 53 (.cons (.call 64 (.cons (.var 2) (.cons (.var 13) (.cons (.len (.var 2)) .nil)))) .nil)) (.one .eq (.ite (.cmp (.len (.var 14)) (.one .gt (.int 0))) (.idx (.var 14) (.int 0)) (.int 0)))))
    .nil))))))))))))))))⟩
noncomputable def f71 : MF := ⟨3, 15, .body (.cons (.assign 3 (.key (.var 1) 65))
    (.cons (.assign 4 (.key (.var 1) 66))
    (.cons (.assign 5 (.bin .sub (.len (.var 3)) (.int 1)))
    (.cons (.assign 6 (.key (.var 1) 68))
    (.cons (.ife (.cmp (.call 66 (.cons (.meth (.var 0) 58 .nil) .nil)) (.one .ne (.call 65 (.cons (.var 3) (.cons (.bin .add (.var 6) (.int 1)) (.cons (.bin .add (.var 5) (.int 1)) .nil)))))) (.cons (.ret .ff)
    .nil) .nil)
    (.cons (.assign 7 (.list .nil))
    (.cons (.ife (.not (.e (.key (.var 1) 67))) (.cons (.assign 7 (.call 67 (.cons (.var 3) (.cons (.bin .add (.max2 (.var 4) (.key (.var 1) 23)) (.int 1)) (.cons (.bin .add (.key (.var 1) 22) (.int 1)) (.cons (.key (.var 1) 69) .nil))))))
    .nil) .nil)
    (.cons (.ife (.or (.cons (.cmp (.meth (.var 0) 61 .nil) (.one .ne (.cmp (.len (.var 7)) (.one .gt (.int 0))))) (.cons (.cmp (.call 66 (.cons (.meth (.var 0) 62 .nil) .nil)) (.one .ne (.var 7))) .nil))) (.cons (.ret .ff)
    .nil) .nil)
    (.cons (.assign 8 (.bin .mod (.bin .fdiv (.var 2) (.int 5)) (.int 24)))
    (.cons (.assign 9 (.bin .add (.bin .add (.var 4) (.int 1)) (.bin .mod (.var 2) (.bin .sub (.bin .add (.var 5) (.int 2)) (.var 4)))))
    (.cons (.ife (.cmp (.call 66 (.cons (.meth (.var 0) 16 (.cons (.var 9) (.cons (.var 8) .nil))) .nil)) (.one .ne (.call 67 (.cons (.var 3) (.cons (.var 9) (.cons (.bin .add (.var 5) (.int 1)) (.cons (.var 8) .nil))))))) (.cons (.ret .ff)
    .nil) .nil)
    (.cons (.assign 10 (.bin .mod (.bin .fdiv (.var 2) (.int 3)) (.bin .add (.var 5) (.int 3))))
    (.cons (.assign 11 (.bin .sub (.bin .add (.var 10) (.bin .mod (.bin .fdiv (.var 2) (.int 11)) (.int 7))) (.int 1)))
    (.cons (.assign 12 .none)
    (.cons (.ife (.cmp (.var 6) (.cons .lt (.var 10) (.cons .le (.var 11) (.one .le (.bin .add (.var 5) (.int 1)))))) (.cons (.assign 12 (.call 65 (.cons (.var 3) (.cons (.var 10) (.cons (.var 11) .nil)))))
    .nil) .nil)
    (.cons (.tryy (.cons (.assign 13 (.call 66 (.cons (.meth (.attr (.var 0) 21) 47 (.cons (.var 10) (.cons (.var 11) .nil))) .nil)))
    .nil) (.cons [9] [.assign 13 .none] .nil))
    (.cons (.ife (.cmp (.var 13) (.one .ne (.var 12))) (.cons (.ret .ff)
    .nil) .nil)
    (.cons (.ife (.or (.cons (.cmp (.var 10) (.one .gt (.var 11))) (.cons (.and (.cons (.cmp (.var 10) (.one .gt (.var 4))) (.cons (.cmp (.var 11) (.one .gt (.bin .add (.var 5) (.int 1)))) .nil))) .nil))) (.cons (.assign 14 .none)
    .nil) (.cons (.ife (.cmp (.var 10) (.one .le (.var 4))) (.cons (.assign 14 (.neg 1))
    .nil) (.cons (.assign 14 (.call 67 (.cons (.var 3) (.cons (.var 10) (.cons (.var 11) (.cons (.var 8) .nil))))))
    .nil))
    .nil))
    (.cons (.tryy (.cons (.assign 13 (.call 66 (.cons (.meth (.var 0) 64 (.cons (.var 10) (.cons (.var 11) (.cons (.var 8) .nil)))) .nil)))
    .nil) (.cons [4] [.assign 13 (.neg 1)] (.cons [9] [.assign 13 .none] .nil)))
    (.cons (.ret (.cmp (.var 13) (.one .eq (.var 14))))
    .nil))))))))))))))))))))⟩
noncomputable def f72 : MF := ⟨4, 16, .body (.cons (.assign 4 (.key (.var 1) 65))
    (.cons (.assign 5 (.bin .sub (.len (.var 4)) (.int 1)))
    (.cons (.assign 6 (.min2 (.max2 (.int 0) (.bin .sub (.bin .add (.var 5) (.int 1)) (.bin .mod (.bin .add (.int 1) (.bin .mod (.bin .fdiv (.var 3) (.int 4)) (.int 5))) (.int 5)))) (.bin .sub (.len (.var 2)) (.int 1))))
    (.cons (.assign 7 (.call 64 (.cons (.var 2) (.cons (.bin .add (.var 6) (.int 1)) (.cons (.bin .add (.bin .add (.var 6) (.int 1)) (.bin .mod (.bin .add (.int 1) (.bin .fdiv (.var 3) (.int 20))) (.int 5))) .nil)))))
    (.cons (.assign 8 (.idx (.var 2) (.var 6)))
    (.cons (.ife (.cmp (.bin .mod (.bin .fdiv (.var 3) (.int 100)) (.int 4)) (.one .eq (.int 3))) (.cons (.assign 8 (.int 9))
    .nil) .nil)
    (.cons (.assign 9 (.bin .mod (.bin .fdiv (.var 3) (.int 400)) (.int 9)))
    (.cons (.assign 10 (.bin .add (.var 6) (.len (.var 7))))
    (.cons (.assign 11 (.and (.cons (.cmp (.bin .mod (.bin .fdiv (.var 3) (.int 100)) (.int 4)) (.one .eq (.int 2))) (.cons (.cmp (.len (.var 7)) (.one .gt (.int 1))) .nil))))
    (.cons (.assign 12 .none)
    (.cons (.ife (.e (.var 11)) (.cons (.assign 7 (.bin .add (.sliceU (.var 7) (.neg 2)) (.sliceL (.var 7) (.neg 1))))
    .nil) .nil)
    (.cons (.ife (.and (.cons (.cmp (.key (.var 1) 66) (.cons .le (.var 6) (.one .le (.var 5)))) (.cons (.cmp (.idx (.var 4) (.var 6)) (.one .eq (.var 8))) (.cons (.e (.var 11)) .nil)))) (.cons (.assign 12 (.neg 2))
    .nil) (.cons (.ife (.and (.cons (.cmp (.key (.var 1) 66) (.cons .le (.var 6) (.one .le (.var 5)))) (.cons (.cmp (.idx (.var 4) (.var 6)) (.one .eq (.var 8))) .nil))) (.cons (.assign 12 (.var 10))
    (.cons (.assign 13 (.compIf (.var 15) 15 (.range2 (.bin .add (.var 6) (.int 1)) (.bin .add (.var 10) (.int 1))) (.or (.cons (.cmp (.var 15) (.one .gt (.var 5))) (.cons (.cmp (.idx (.var 4) (.var 15)) (.one .ne (.idx (.var 2) (.var 15)))) .nil)))))
    (.cons (.ife (.and (.cons (.cmp (.len (.var 13)) (.one .gt (.int 0))) (.cons (.cmp (.idx (.var 13) (.int 0)) (.one .le (.key (.var 1) 22))) .nil))) (.cons (.assign 12 (.neg 1))
    .nil) (.cons (.ife (.cmp (.len (.var 13)) (.one .gt (.int 0))) (.cons (.setKey (.var 1) 65 (.bin .add (.sliceU (.var 4) (.idx (.var 13) (.int 0))) (.sliceLU (.var 2) (.idx (.var 13) (.int 0)) (.bin .add (.var 10) (.int 1)))))
    (.cons (.setKey (.var 1) 68 (.min2 (.key (.var 1) 68) (.bin .sub (.idx (.var 13) (.int 0)) (.int 1))))
    .nil)) .nil)
    .nil))
    (.cons (.ife (.cmp (.var 12) (.one .eq (.var 10))) (.cons (.setKey (.var 1) 22 (.max2 (.key (.var 1) 22) (.min2 (.var 9) (.var 10))))
    .nil) .nil)
    .nil)))) .nil)
    .nil))
    (.cons (.tryy (.cons (.assign 14 (.meth (.var 0) 52 (.cons (.var 6) (.cons (.var 8) (.cons (.var 9) (.cons (.var 7) .nil))))))
    .nil) (.cons [9] [.assign 14 (.neg 1)] (.cons [7] [.assign 14 (.neg 2)] .nil)))
    (.cons (.ret (.cmp (.var 14) (.one .eq (.var 12))))
    .nil))))))))))))))⟩
noncomputable def f73 : MF := ⟨4, 10, .body (.cons (.assign 4 (.key (.var 1) 65))
    (.cons (.assign 5 (.bin .sub (.len (.var 4)) (.int 1)))
    (.cons (.assign 6 (.bin .mod (.bin .fdiv (.var 3) (.int 4)) (.bin .add (.var 5) (.int 3))))
    (.cons (.assign 7 (.call 64 (.cons (.var 2) (.cons (.bin .add (.var 6) (.int 1)) (.cons (.bin .add (.bin .add (.var 6) (.int 2)) (.bin .mod (.bin .fdiv (.var 3) (.int 40)) (.int 3))) .nil)))))
    (.cons (.assign 8 (.var 5))
    (.cons (.ife (.cmp (.len (.var 7)) (.one .gt (.int 0))) (.cons (.ife (.cmp (.var 6) (.one .lt (.key (.var 1) 22))) (.cons (.assign 8 (.neg 1))
    .nil) (.cons (.ife (.cmp (.var 6) (.one .gt (.var 5))) (.cons (.assign 8 (.neg 2))
    .nil) (.cons (.ife (.cmp (.idx (.var 4) (.var 6)) (.one .ne (.idx (.var 2) (.var 6)))) (.cons (.ret .tt)
    .nil) (.cons (.assign 8 (.bin .add (.var 6) (.len (.var 7))))
    (.cons (.setKey (.var 1) 65 (.bin .add (.sliceU (.var 4) (.bin .add (.var 6) (.int 1))) (.sliceLU (.var 2) (.bin .add (.var 6) (.int 1)) (.bin .add (.var 8) (.int 1)))))
    (.cons (.setKey (.var 1) 68 (.min2 (.key (.var 1) 68) (.var 6)))
    .nil))))
    .nil))
    .nil))
    .nil) .nil)
    (.cons (.tryy (.cons (.assign 9 (.meth (.var 0) 36 (.cons (.var 7) .nil)))
    .nil) (.cons [9] [.assign 9 (.neg 1)] (.cons [7] [.assign 9 (.neg 2)] .nil)))
    (.cons (.ret (.cmp (.var 9) (.one .eq (.var 8))))
    .nil))))))))⟩
noncomputable def f74 : MF := ⟨3, 4, .body (.cons (.assign 3 (.meth (.var 0) 58 .nil))
    (.cons (.ife (.e (.meth (.var 0) 59 .nil)) (.cons (.expr (.meth (.var 1) 37 (.cons (.meth (.var 0) 17 .nil) .nil)))
    (.cons (.setKey (.var 2) 70 (.sliceU (.key (.var 2) 65) (.bin .add (.key (.var 2) 66) (.int 1))))
    (.cons (.setKey (.var 2) 71 (.key (.var 2) 66))
    .nil))) .nil)
    (.cons (.expr (.meth (.var 1) 36 (.cons (.var 3) .nil)))
    (.cons (.ife (.cmp (.len (.var 3)) (.one .gt (.int 0))) (.cons (.setKey (.var 2) 70 (.bin .add (.sliceU (.key (.var 2) 70) (.bin .add (.key (.var 2) 68) (.int 1))) (.sliceL (.key (.var 2) 65) (.bin .add (.key (.var 2) 68) (.int 1)))))
    .nil) .nil)
    (.cons (.setKey (.var 2) 72 (.tup (.cons (.meth (.var 0) 59 .nil) (.cons (.key (.var 2) 66) (.cons (.bin .sub (.len (.key (.var 2) 65)) (.int 1)) (.cons (.idx (.key (.var 2) 65) (.neg 1)) (.cons (.len (.var 3)) .nil)))))))
    .nil)))))⟩
noncomputable def f75 : MF := ⟨2, 7, .body (.cons (.unpack [2, 3, 4, 5, 6] (.key (.var 1) 72))
    (.cons (.ife (.e (.var 2)) (.cons (.expr (.meth (.var 0) 44 (.cons (.var 3) .nil)))
    (.cons (.setKey (.var 1) 67 .ff)
    .nil)) .nil)
    (.cons (.ife (.cmp (.var 6) (.one .gt (.int 0))) (.cons (.expr (.meth (.var 0) 43 (.cons (.var 4) (.cons (.var 5) .nil))))
    (.cons (.ife (.and (.cons (.cmp (.key (.var 1) 68) (.cons .lt (.var 4) (.one .lt (.len (.key (.var 1) 65))))) (.cons (.cmp (.idx (.key (.var 1) 65) (.var 4)) (.one .eq (.var 5))) .nil))) (.cons (.setKey (.var 1) 68 (.var 4))
    .nil) .nil)
    .nil)) .nil)
    (.cons (.setKey (.var 1) 72 .none)
    .nil))))⟩
noncomputable def f76 : MF := ⟨4, 10, .body (.cons (.assign 4 (.key (.var 1) 65))
    (.cons (.assign 5 (.key (.var 1) 22))
    (.cons (.assign 6 (.bin .mod (.bin .fdiv (.var 3) (.int 2)) (.bin .add (.len (.var 4)) (.int 2))))
    (.cons (.ife (.cmp (.var 2) (.one .eq (.int 5))) (.cons (.assign 7 (.or (.cons (.cmp (.var 6) (.one .eq (.int 0))) (.cons (.cmp (.key (.var 1) 23) (.cons .le (.var 6) (.one .le (.var 5)))) .nil))))
    (.cons (.ife (.and (.cons (.e (.var 7)) (.cons (.cmp (.var 6) (.one .gt (.int 0))) .nil))) (.cons (.setKey (.var 1) 23 (.var 6))
    .nil) .nil)
    (.cons (.tryy (.cons (.expr (.meth (.var 0) 57 (.cons (.var 6) .nil)))
    .nil) (.cons [9] [.ret (.notv 7)] .nil))
    (.cons (.ret (.var 7))
    .nil)))) .nil)
    (.cons (.ife (.cmp (.bin .mod (.var 3) (.int 2)) (.one .eq (.int 0))) (.cons (.assign 7 (.or (.cons (.cmp (.var 6) (.one .le (.var 5))) (.cons (.cmp (.var 6) (.one .lt (.len (.var 4)))) .nil))))
    (.cons (.ife (.e (.var 7)) (.cons (.setKey (.var 1) 22 (.max2 (.var 5) (.var 6)))
    .nil) .nil)
    (.cons (.tryy (.cons (.expr (.meth (.var 0) 55 (.cons (.var 6) .nil)))
    .nil) (.cons [9] [.ret (.notv 7)] .nil))
    (.cons (.ret (.var 7))
    .nil)))) .nil)
    (.cons (.assign 8 (.bin .mod (.bin .fdiv (.var 3) (.int 20)) (.int 5)))
    (.cons (.assign 9 (.and (.cons (.cmp (.var 5) (.cons .lt (.var 6) (.one .lt (.len (.var 4))))) (.cons (.cmp (.idx (.var 4) (.var 6)) (.one .eq (.var 8))) (.cons (.cmp (.var 8) (.one .gt (.int 0))) .nil)))))
    (.cons (.ife (.e (.var 9)) (.cons (.setKey (.var 1) 22 (.var 6))
    .nil) .nil)
    (.cons (.ret (.cmp (.meth (.var 0) 56 (.cons (.var 6) (.cons (.var 8) .nil))) (.one .eq (.var 9))))
    .nil)))))))))⟩
noncomputable def f77 : MF := ⟨4, 4, .body (.cons (.ife (.cmp (.var 3) (.one .lt (.key (.var 1) 22))) (.cons (.tryy (.cons (.expr (.meth (.var 0) 45 (.cons (.new 3 (.cons (.var 3) (.cons (.idx (.var 2) (.var 3)) (.cons (.new 2 (.cons (.list (.cons (.int 1) .nil)) (.cons (.list .nil) (.cons (.list .nil) (.cons (.list .nil) (.cons .ff .nil)))))) (.cons .bnil .nil))))) .nil)))
    .nil) (.cons [8] [.ret .tt] .nil))
    (.cons (.ret .ff)
    .nil)) .nil)
    (.cons (.ife (.cmp (.var 3) (.one .gt (.key (.var 1) 22))) (.cons (.expr (.meth (.var 0) 45 (.cons (.new 3 (.cons (.var 3) (.cons (.idx (.var 2) (.var 3)) (.cons (.new 2 (.cons (.list (.cons (.int 1) .nil)) (.cons (.list .nil) (.cons (.list .nil) (.cons (.list .nil) (.cons .ff .nil)))))) (.cons .bnil .nil))))) .nil)))
    (.cons (.setKey (.var 1) 65 (.sliceU (.var 2) (.bin .add (.var 3) (.int 1))))
    (.cons (.setKey (.var 1) 66 (.var 3))
    (.cons (.setKey (.var 1) 22 (.var 3))
    (.cons (.setKey (.var 1) 68 (.var 3))
    (.cons (.setKey (.var 1) 67 .tt)
    .nil)))))) .nil)
    (.cons (.ret .tt)
    .nil)))⟩
noncomputable def f78 : MF := ⟨1, 16, .body (.cons (.assign 1 (.bin .add (.int 4) (.call 63 (.cons (.var 0) (.cons (.int 1) (.cons (.int 14) .nil))))))
    (.cons (.assign 2 (.bin .sub (.int 1) (.call 63 (.cons (.var 0) (.cons (.int 0) (.cons (.int 2) .nil))))))
    (.cons (.assign 3 (.new 4 (.cons (.new 2 (.cons (.bin .mul (.list (.cons (.int 1) .nil)) (.var 2)) (.cons (.list .nil) (.cons (.list .nil) (.cons (.list .nil) (.cons .ff .nil)))))) .nil)))
    (.cons (.assign 4 (.new 6 (.cons (.var 3) (.cons (.var 1) .nil))))
    (.cons (.assign 5 (.call 68 (.cons (.var 0) .nil)))
    (.cons (.dictNew 6 [65, 66, 22, 23, 68, 67, 70, 71, 72, 69] (.cons (.sliceU (.list (.cons (.int 0) (.cons (.int 1) .nil))) (.bin .add (.var 2) (.int 1))) (.cons (.var 2) (.cons (.var 2) (.cons (.var 2) (.cons (.var 2) (.cons .ff (.cons (.sliceU (.list (.cons (.int 0) (.cons (.int 1) .nil))) (.bin .add (.var 2) (.int 1))) (.cons (.var 2) (.cons .none (.cons (.var 1) .nil)))))))))))
    (.cons (.forr 7 (.range1 (.int 9)) (.cons (.assign 8 (.call 63 (.cons (.var 0) (.cons (.bin .add (.int 10) (.bin .mul (.int 2) (.var 7))) (.cons (.int 16000) .nil)))))
    (.cons (.assign 9 (.call 63 (.cons (.var 0) (.cons (.bin .add (.int 11) (.bin .mul (.int 2) (.var 7))) (.cons (.int 4000) .nil)))))
    (.cons (.assign 10 (.bin .mod (.var 8) (.int 8)))
    (.cons (.assign 11 (.idx (.var 5) (.bin .sub (.int 3) (.bin .mod (.var 9) (.int 4)))))
    (.cons (.assign 12 .tt)
    (.cons (.ife (.cmp (.var 10) (.one .lt (.int 2))) (.cons (.assign 12 (.call 72 (.cons (.var 4) (.cons (.var 6) (.cons (.var 11) (.cons (.var 9) .nil))))))
    .nil) (.cons (.ife (.cmp (.var 10) (.one .eq (.int 2))) (.cons (.assign 12 (.call 73 (.cons (.var 4) (.cons (.var 6) (.cons (.var 11) (.cons (.var 9) .nil))))))
    .nil) (.cons (.ife (.cmp (.var 10) (.one .eq (.int 3))) (.cons (.ife (.isNone (.key (.var 6) 72)) (.cons (.expr (.call 74 (.cons (.var 4) (.cons (.var 3) (.cons (.var 6) .nil)))))
    .nil) (.cons (.expr (.call 75 (.cons (.var 4) (.cons (.var 6) .nil))))
    .nil))
    .nil) (.cons (.ife (.cmp (.var 10) (.one .lt (.int 6))) (.cons (.assign 12 (.call 76 (.cons (.var 4) (.cons (.var 6) (.cons (.var 10) (.cons (.var 9) .nil))))))
    .nil) (.cons (.ife (.cmp (.var 10) (.one .eq (.int 6))) (.cons (.ife (.notNone (.key (.var 6) 72)) (.cons (.expr (.call 75 (.cons (.var 4) (.cons (.var 6) .nil))))
    .nil) .nil)
    (.cons (.assign 12 (.call 77 (.cons (.var 4) (.cons (.var 6) (.cons (.var 11) (.cons (.bin .mod (.bin .fdiv (.var 9) (.int 4)) (.len (.var 11))) .nil))))))
    .nil)) (.cons (.ife (.cmp (.bin .mod (.var 9) (.int 2)) (.one .eq (.int 1))) (.cons (.assign 13 (.min2 (.key (.var 6) 23) (.key (.var 6) 68)))
    (.cons (.ife (.and (.cons (.not (.e (.key (.var 6) 67))) (.cons (.cmp (.var 13) (.one .gt (.key (.var 6) 66))) .nil))) (.cons (.aug 13 .sub (.bin .mod (.bin .fdiv (.var 9) (.int 2)) (.bin .sub (.var 13) (.key (.var 6) 66))))
    (.cons (.expr (.meth (.var 3) 38 (.cons (.var 13) (.cons .none (.cons .bnil .nil)))))
    (.cons (.expr (.meth (.var 3) 39 (.cons (.var 13) .nil)))
    (.cons (.setKey (.var 6) 66 (.var 13))
    (.cons (.setKey (.var 6) 71 (.var 13))
    .nil))))) .nil)
    .nil)) (.cons (.assign 4 (.new 6 (.cons (.var 3) (.cons (.var 1) .nil))))
    (.cons (.setKey (.var 6) 65 (.key (.var 6) 70))
    (.cons (.setKey (.var 6) 66 (.key (.var 6) 71))
    (.cons (.setKey (.var 6) 22 (.key (.var 6) 66))
    (.cons (.setKey (.var 6) 23 (.key (.var 6) 66))
    (.cons (.setKey (.var 6) 68 (.bin .sub (.len (.key (.var 6) 70)) (.int 1)))
    (.cons (.setKey (.var 6) 67 .ff)
    (.cons (.setKey (.var 6) 72 .none)
    .nil)))))))))
    .nil))
    .nil))
    .nil))
    .nil))
    .nil))
    (.cons (.assign 14 (.bin .fdiv (.var 8) (.int 16)))
    (.cons (.ife (.or (.cons (.not (.e (.var 12))) (.cons (.not (.e (.call 69 (.cons (.var 4) (.cons (.var 6) .nil))))) .nil))) (.cons (.ret .ff)
    .nil) .nil)
    (.cons (.ife (.and (.cons (.or (.cons (.cmp (.bin .mod (.bin .fdiv (.var 8) (.int 8)) (.int 2)) (.one .eq (.int 1))) (.cons (.cmp (.var 7) (.one .eq (.int 8))) .nil))) (.cons (.not (.e (.call 70 (.cons (.var 4) (.cons (.var 6) (.cons (.var 11) (.cons (.var 14) .nil))))))) .nil))) (.cons (.ret .ff)
    .nil) .nil)
    (.cons (.ife (.and (.cons (.or (.cons (.cmp (.bin .mod (.bin .fdiv (.var 8) (.int 8)) (.int 2)) (.one .eq (.int 0))) (.cons (.cmp (.var 7) (.one .eq (.int 8))) .nil))) (.cons (.not (.e (.call 71 (.cons (.var 4) (.cons (.var 6) (.cons (.var 14) .nil)))))) .nil))) (.cons (.ret .ff)
    .nil) .nil)
    (.cons (.assign 15 (.call 66 (.cons (.attr (.var 3) 16) .nil)))
    (.cons (.ife (.or (.cons (.cmp (.attr (.var 3) 14) (.one .ne (.key (.var 6) 71))) (.cons (.cmp (.meth (.var 3) 34 (.cons (.attr (.var 3) 14) .nil)) (.one .ne (.idx (.key (.var 6) 70) (.key (.var 6) 71)))) .nil))) (.cons (.ret .ff)
    .nil) .nil)
    (.cons (.ife (.cmp (.var 15) (.one .ne (.call 65 (.cons (.key (.var 6) 70) (.cons (.bin .add (.key (.var 6) 71) (.int 1)) (.cons (.len (.key (.var 6) 70)) .nil)))))) (.cons (.ret .ff)
    .nil) .nil)
    .nil))))))))))))))
    (.cons (.ret (.cmp (.call 66 (.cons (.meth (.var 4) 63 .nil) .nil)) (.one .eq (.call 65 (.cons (.key (.var 6) 65) (.cons (.bin .add (.key (.var 6) 66) (.int 1)) (.cons (.len (.key (.var 6) 65)) .nil)))))))
    .nil))))))))⟩
noncomputable def prg : Prg := ⟨[(0, R.f0), (1, R.f1), (2, R.f2), (3, R.f3), (4, R.f4), (5, R.f5), (6, R.f6), (7, R.f7), (8, R.f8), (9, R.f9), (10, R.f10), (11, R.f11), (12, R.f12), (13, R.f13), (14, R.f14), (15, R.f15), (16, R.f16), (17, R.f17), (18, R.f18), (19, R.f19), (20, R.f20), (21, R.f21), (22, R.f22), (23, R.f23), (24, R.f24), (25, R.f25), (26, R.f26), (27, R.f27), (28, R.f28), (29, R.f29), (30, R.f30), (31, R.f31), (32, R.f32), (33, R.f33), (34, R.f34), (35, R.f35), (36, R.f36), (37, R.f37), (38, R.f38), (39, R.f39), (40, R.f40), (41, R.f41), (42, R.f42), (43, R.f43), (44, R.f44), (45, R.f45), (46, R.f46), (47, R.f47), (48, R.f48), (49, R.f49), (50, R.f50), (51, R.f51), (52, R.f52), (53, R.f53), (54, R.f54), (55, R.f55), (56, R.f56), (57, R.f57), (58, R.f58), (59, R.f59), (60, R.f60), (61, R.f61), (62, R.f62), (63, f63), (64, f64), (65, f65), (66, f66), (67, f67), (68, f68), (69, f69), (70, f70), (71, f71), (72, f72), (73, f73), (74, f74), (75, f75), (76, f76), (77, f77), (78, f78)],
  R.cls, R.sub⟩
noncomputable def gl : List (PySem.Str × GV) := [(S "varint_length", .fn 0),
  (S "rising", .fn 1),
  (S "limit_size", .fn 5),
  (S "_law_draw", .fn 63),
  (S "_law_entries", .fn 64),
  (S "_law_rows", .fn 65),
  (S "_law_told", .fn 66),
  (S "_law_page", .fn 67),
  (S "_law_leaders", .fn 68),
  (S "_law_agrees", .fn 69),
  (S "_law_places", .fn 70),
  (S "_law_reads", .fn 71),
  (S "_law_append", .fn 72),
  (S "_law_put", .fn 73),
  (S "_law_store", .fn 74),
  (S "_law_tell", .fn 75),
  (S "_law_mark", .fn 76),
  (S "_law_restore", .fn 77),
  (S "law", .fn 78),
  (S "Entry", .cls 0),
  (S "HardState", .cls 1),
  (S "ConfState", .cls 2),
  (S "Snapshot", .cls 3),
  (S "MemoryStorage", .cls 4),
  (S "Unstable", .cls 5),
  (S "RaftLog", .cls 6),
  (S "KeepError", .exc 0),
  (S "StoreError", .exc 1),
  (S "BadOption", .exc 2),
  (S "RaftError", .exc 3),
  (S "Compacted", .exc 4),
  (S "Unavailable", .exc 5),
  (S "SnapNotReady", .exc 6),
  (S "LogGap", .exc 7),
  (S "CommitRegress", .exc 8),
  (S "LogPanic", .exc 9),
  (S "SnapOutOfDate", .exc 10),
  (S "MAX_64", .gint 0 18446744073709551615),
  (S "NONE", .gint 1 0),
  (S "NO_LIMIT", .gint 2 18446744073709551615),
  (S "len", .blt 0),
  (S "min", .blt 1),
  (S "max", .blt 2),
  (S "tuple", .blt 3),
  (S "bytes", .blt 4),
  (S "range", .blt 5),
  (S "sorted", .blt 6)]
end P01
namespace Mini.L
open Mini
section
variable {P : Prg} {cf : Nat → List MV → MH → RS MV} {l l₁ l₂ : Loc} {H H₁ H₂ H₃ : MH} {e a b : ME} {es : MEs} {v w u : MV} {r : MSs} {x : SR} {i f k : Nat} {vs : List MV}
theorem bnd {α β : Type} {m : RS α} {f : α → MH → RS β} {c : α} {H : MH} {y : RS β} (h : m = .ok c H) (k : f c H = y) : m.bind f = y := by rw [h]; exact k
theorem op {α β : Type} {o : Option α} {f : α → RS β} {c : α} {y : RS β} (h : o = some c) (k : f c = y) : opt o f = y := by rw [h]; exact k
theorem tos {α : Type} {m : RS α} {f : α → MH → SR} {c : α} {H : MH} (h : m = .ok c H) (k : f c H = x) : toS m l f = x := by rw [h]; exact k
theorem ops {α : Type} {o : Option α} {f : α → SR} {c : α} (h : o = some c) (k : f c = x) : optS o f = x := by rw [h]; exact k
theorem thn {y : SR} {f : Loc → MH → SR} (h : y = .next l₁ H₁) (k : f l₁ H₁ = x) : y.then f = x := by rw [h]; exact k
theorem xA (h : evalE P cf e l H = .ok v H₁) (k : execSs P cf r (l.set i (.val v)) H₁ = x) : execSs P cf (.cons (.assign i e) r) l H = x := thn (tos h rfl) k
theorem xE (h : evalE P cf e l H = .ok v H₁) (k : execSs P cf r l H₁ = x) : execSs P cf (.cons (.expr e) r) l H = x := thn (tos h rfl) k
theorem xR (h : evalE P cf e l H = .ok v H₁) : execSs P cf (.cons (.ret e) r) l H = .ret v H₁ := congrArg (SR.then · _) (tos h rfl : execS P cf (.ret e) l H = .ret v H₁)
theorem xU {is : List Nat} (h : evalE P cf e l H = .ok (.tup vs) H₁) (h2 : setAll is vs l = some l₁) (k : execSs P cf r l₁ H₁ = x) : execSs P cf (.cons (.unpack is e) r) l H = x := thn (tos h (ops (c := l₁) h2 rfl)) k
theorem xS (h : evalE P cf b l H = .ok v H₁) (h2 : evalE P cf e l H₁ = .ok u H₂) (h3 : setO P u f v H₂ = some H₃) (k : execSs P cf r l H₃ = x) : execSs P cf (.cons (.setAttr e f b) r) l H = x := thn (tos h (tos h2 (ops h3 rfl))) k
theorem xG {o : Op} (h0 : (lget l i).val? = some w) (h : evalE P cf e l H = .ok v H₁) (h2 : (intz w v fun a b => binop o (.int a) (.int b)) = some u) (k : execSs P cf r (l.set i (.val u)) H₁ = x) : execSs P cf (.cons (.aug i o e) r) l H = x := thn (ops h0 (tos h (ops h2 rfl))) k
theorem xN (h : evalEs P cf es l H = .ok vs H₁) (k : execSs P cf r (l.set i (.acc vs)) H₁ = x) : execSs P cf (.cons (.accNew i es) r) l H = x := thn (tos h rfl) k
theorem xC (h : evalE P cf e l H = .ok (.list vs) H₁) (hl : vs.length ≤ 1000) (k : execSs P cf r (l.set i (.acc vs)) H₁ = x) : execSs P cf (.cons (.accCopy i e) r) l H = x := thn (tos h (ops (by show guardO (decide _) vs = _; rw [decide_eq_true hl]; rfl) rfl)) k
theorem xP (h0 : (lget l i).acc? = some vs) (h : evalE P cf e l H = .ok v H₁) (hl : vs.length < 1000) (k : execSs P cf r (l.set i (.acc (vs ++ [v]))) H₁ = x) : execSs P cf (.cons (.accApp i e) r) l H = x := thn (ops h0 (tos h (ops (by show guardO (decide _) (vs ++ [v]) = _; rw [decide_eq_true hl]; rfl) rfl))) k
theorem xZ (h0 : (lget l i).acc? = some vs) (k : execSs P cf r (l.set i (.val (.list vs))) H = x) : execSs P cf (.cons (.freeze i) r) l H = x := thn (ops h0 rfl) k
section
variable {t : MT} {c : Bool} {aa bb : MSs} {y : SR}
theorem ifT (h : evalT P cf t l H = .ok c H₁) (hc : c = true) (k : execSs P cf aa l H₁ = y) : execS P cf (.ife t aa bb) l H = y := tos h (by rw [hc]; exact k)
theorem ifF (h : evalT P cf t l H = .ok c H₁) (hc : c = false) (k : execSs P cf bb l H₁ = y) : execS P cf (.ife t aa bb) l H = y := tos h (by rw [hc]; exact k)
theorem xI (h : evalT P cf t l H = .ok c H₁) (hc : c = true) (k : execSs P cf aa l H₁ = .next l₂ H₂) (k2 : execSs P cf r l₂ H₂ = x) : execSs P cf (.cons (.ife t aa bb) r) l H = x := thn (ifT h hc k) k2
theorem x0 (h : evalT P cf t l H = .ok c H₁) (hc : c = false) (k : execSs P cf r l H₁ = x) : execSs P cf (.cons (.ife t aa .nil) r) l H = x := thn (ifF h hc rfl) k
theorem xL (h : evalT P cf t l H = .ok c H₁) (hc : c = false) (k : execSs P cf bb l H₁ = .next l₂ H₂) (k2 : execSs P cf r l₂ H₂ = x) : execSs P cf (.cons (.ife t aa bb) r) l H = x := thn (ifF h hc k) k2
theorem xIr (h : evalT P cf t l H = .ok c H₁) (hc : c = true) (k : execSs P cf aa l H₁ = .ret v H₂) : execSs P cf (.cons (.ife t aa bb) r) l H = .ret v H₂ := congrArg (SR.then · _) (ifT h hc k)
theorem xIb (h : evalT P cf t l H = .ok c H₁) (hc : c = true) (k : execSs P cf aa l H₁ = .brk l₂ H₂) : execSs P cf (.cons (.ife t aa bb) r) l H = .brk l₂ H₂ := congrArg (SR.then · _) (ifT h hc k)
theorem xIx {ex : Nat} (h : evalT P cf t l H = .ok c H₁) (hc : c = true) (k : execSs P cf aa l H₁ = .exm ex l₂ H₂) : execSs P cf (.cons (.ife t aa bb) r) l H = .exm ex l₂ H₂ := congrArg (SR.then · _) (ifT h hc k)
theorem tC {o : Cp} (h : evalE P cf a l H = .ok v H₁) (h2 : evalE P cf b l H₁ = .ok w H₂) (h3 : cmpop o v w = some c) : evalT P cf (.cmp a (.one o b)) l H = .ok c H₂ := bnd h (bnd h2 (op h3 rfl))
theorem eC {o : Cp} (h : evalE P cf a l H = .ok v H₁) (h2 : evalE P cf b l H₁ = .ok w H₂) (h3 : cmpop o v w = some c) : evalE P cf (.cmp a (.one o b)) l H = .ok (.bool c) H₂ := bnd h (bnd (bnd h2 (op h3 rfl)) rfl)
theorem tA {ts : MTs} (h : evalTs P cf true ts l H = .ok c H₁) : evalT P cf (.and ts) l H = .ok c H₁ := h
theorem tO {ts : MTs} (h : evalTs P cf false ts l H = .ok c H₁) : evalT P cf (.or ts) l H = .ok c H₁ := h
theorem tsN {a : Bool} : evalTs P cf a .nil l H = .ok a H := rfl
theorem tsC {ts : MTs} {a c' : Bool} (h : evalT P cf t l H = .ok c H₁) (hc : c = a) (k : evalTs P cf a ts l H₁ = .ok c' H₂) : evalTs P cf a (.cons t ts) l H = .ok c' H₂ := bnd h (by rw [if_pos hc]; exact k)
theorem tsX {ts : MTs} {a : Bool} (h : evalT P cf t l H = .ok c H₁) (hc : c = !a) : evalTs P cf a (.cons t ts) l H = .ok (!a) H₁ := bnd h (by rw [if_neg (by cases a <;> cases hc <;> decide)])
theorem tN (h : evalT P cf t l H = .ok c H₁) : evalT P cf (.not t) l H = .ok (!c) H₁ := bnd h rfl
end
theorem eB {o : Op} (h : evalE P cf a l H = .ok v H₁) (h2 : evalE P cf b l H₁ = .ok w H₂) (h3 : binop o v w = some u) : evalE P cf (.bin o a b) l H = .ok u H₂ := bnd h (bnd h2 (op h3 rfl))
theorem eAt (h : evalE P cf a l H = .ok v H₁) (h2 : getAttr P v f H₁ = some w) : evalE P cf (.attr a f) l H = .ok w H₁ := bnd h (op h2 rfl)
theorem eIx (h : evalE P cf a l H = .ok v H₁) (h2 : evalE P cf b l H₁ = .ok w H₂) (h3 : idxO v w = some u) : evalE P cf (.idx a b) l H = .ok u H₂ := bnd h (bnd h2 (op h3 rfl))
theorem eLen (h : evalE P cf a l H = .ok v H₁) (h2 : lenO v = some w) : evalE P cf (.len a) l H = .ok w H₁ := bnd h (op h2 rfl)
theorem eTup (h : evalEs P cf es l H = .ok vs H₁) : evalE P cf (.tup es) l H = .ok (.tup vs) H₁ := bnd h rfl
theorem eLst (h : evalEs P cf es l H = .ok vs H₁) : evalE P cf (.list es) l H = .ok (.list vs) H₁ := bnd h rfl
theorem eCons {es : MEs} (h : evalE P cf e l H = .ok v H₁) (h2 : evalEs P cf es l H₁ = .ok vs H₂) : evalEs P cf (.cons e es) l H = .ok (v :: vs) H₂ := bnd h (bnd h2 rfl)
theorem eM {m : Nat} (h : evalE P cf e l H = .ok v H₁) (hm : methOf P v m H₁ = some f) (h2 : evalEs P cf es l H₁ = .ok vs H₂) {y : RS MV} (k : cf f (v :: vs) H₂ = y) : evalE P cf (.meth e m es) l H = y := bnd h (op hm (bnd h2 k))
theorem eCl (h2 : evalEs P cf es l H = .ok vs H₂) {y : RS MV} (k : cf f vs H₂ = y) : evalE P cf (.call f es) l H = y := bnd h2 k
theorem eMin {i j : Int} (h : evalE P cf a l H = .ok (.int i) H₁) (h2 : evalE P cf b l H₁ = .ok (.int j) H₂) : evalE P cf (.min2 a b) l H = .ok (.int (if j < i then j else i)) H₂ := bnd h (bnd h2 rfl)
section
variable {c c' : Nat} {hs : MHs} {bb : MSs} {t : MT}
theorem bnx {α β : Type} {m : RS α} {f : α → MH → RS β} {H : MH} (h : m = .ex c H) : m.bind f = .ex c H := by rw [h]; rfl
theorem tosx {α : Type} {m : RS α} {f : α → MH → SR} (h : m = .ex c H₁) : toS m l f = .exf c l H₁ := by rw [h]; rfl
theorem aX (h : evalE P cf e l H = .ex c H₁) : execSs P cf (.cons (.assign i e) r) l H = .exf c l H₁ := congrArg (SR.then · _) (tosx h : execS P cf (.assign i e) l H = _)
theorem eX (h : evalE P cf e l H = .ex c H₁) : execSs P cf (.cons (.expr e) r) l H = .exf c l H₁ := congrArg (SR.then · _) (tosx h : execS P cf (.expr e) l H = _)
theorem rX (h : evalE P cf e l H = .ex c H₁) : execSs P cf (.cons (.ret e) r) l H = .exf c l H₁ := congrArg (SR.then · _) (tosx h : execS P cf (.ret e) l H = _)
theorem raz {m : RS (List MV)} (h : m = .ok vs H₁) (hi : allInts vs = true) : raiseM c m l = .exm c l H₁ := by
  rw [h]
  show (if allInts vs = true then _ else _) = _
  rw [if_pos hi]
theorem xX (h : evalEs P cf es l H = .ok vs H₁) (hi : allInts vs = true) : execSs P cf (.cons (.raise c es) r) l H = .exm c l H₁ := congrArg (SR.then · _) (raz h hi : execS P cf (.raise c es) l H = _)
theorem xTn (k : execSs P cf bb l H = .next l₁ H₁) (k2 : execSs P cf r l₁ H₁ = x) : execSs P cf (.cons (.tryy bb hs) r) l H = x := thn (show SR.catch _ _ = _ by rw [k]; rfl) k2
theorem xTr (k : execSs P cf bb l H = .ret v H₁) : execSs P cf (.cons (.tryy bb hs) r) l H = .ret v H₁ := congrArg (SR.then · _) (show SR.catch (execSs P cf bb l H) (fun c l H => execHs P c hs l H) = .ret v H₁ by rw [k]; rfl)
theorem cat {y : SR} (k : execSs P cf bb l H = .exf c l₁ H₁) (k2 : execHs P c hs l₁ H₁ = y) : execS P cf (.tryy bb hs) l H = y := by show SR.catch _ _ = _; rw [k]; exact k2
theorem xTc (k : execSs P cf bb l H = .exf c l₁ H₁) (k2 : execHs P c hs l₁ H₁ = .ret v H₂) : execSs P cf (.cons (.tryy bb hs) r) l H = .ret v H₂ := congrArg (SR.then · _) (cat k k2)
theorem xTb (k : execSs P cf bb l H = .exf c l₁ H₁) (k2 : execHs P c hs l₁ H₁ = .brk l₂ H₂) : execSs P cf (.cons (.tryy bb hs) r) l H = .brk l₂ H₂ := congrArg (SR.then · _) (cat k k2)
theorem xTcn (k : execSs P cf bb l H = .exf c l₁ H₁) (k2 : execHs P c hs l₁ H₁ = .next l₂ H₂) (k3 : execSs P cf r l₂ H₂ = x) : execSs P cf (.cons (.tryy bb hs) r) l H = x := thn (cat k k2) k3
theorem lim_big : 1000000 ≤ intLim := by decide +kernel
theorem aI {a : Int} {r : List MV} (h : a.natAbs < 1000000) (k : allInts r = true) : allInts (.int a :: r) = true := by
  show (decide (a.natAbs < intLim) && allInts r) = true
  rw [decide_eq_true (Nat.lt_of_lt_of_le h lim_big), k]; rfl
variable {n : Nat} {test : Loc → MH → RS Bool} {body : Loc → MH → SR} {y : SR} {b : Bool}
theorem wT (h : test l H = .ok b H₁) (hb : b = true) (k : body l H₁ = .next l₂ H₂) (k2 : whileM test body n l₂ H₂ = y) : whileM test body (n + 1) l H = y := by
  show okW (test l H) _ = _
  rw [h, hb]
  show SR.turn (body l H₁) _ = _
  rw [k]; exact k2
theorem wR (h : test l H = .ok b H₁) (hb : b = true) (k : body l H₁ = .ret v H₂) : whileM test body (n + 1) l H = .ret v H₂ := by
  show okW (test l H) _ = _
  rw [h, hb]
  show SR.turn (body l H₁) _ = _
  rw [k]; rfl
theorem w0 (h : test l H = .ok b H₁) (hb : b = false) : whileM test body (n + 1) l H = .next l H₁ := by
  show okW (test l H) _ = _
  rw [h, hb]; rfl
theorem xWn (k : whileM (evalT P cf t) (execSs P cf bb) n l H = .next l₁ H₁) (k2 : execSs P cf r l₁ H₁ = x) : execSs P cf (.cons (.whil n t bb) r) l H = x := thn k k2
theorem xWr (k : whileM (evalT P cf t) (execSs P cf bb) n l H = .ret v H₁) : execSs P cf (.cons (.whil n t bb) r) l H = .ret v H₁ := congrArg (SR.then · _) k
theorem fN {w : MV} {ws : List MV} (k : body (l.set i (.val w)) H = .next l₁ H₁) (k2 : forM i body ws l₁ H₁ = y) : forM i body (w :: ws) l H = y := by
  show SR.turn (body (l.set i (.val w)) H) _ = _
  rw [k]; exact k2
theorem fB {w : MV} {ws : List MV} (k : body (l.set i (.val w)) H = .brk l₁ H₁) : forM i body (w :: ws) l H = .next l₁ H₁ := by
  show SR.turn (body (l.set i (.val w)) H) _ = _
  rw [k]; rfl
theorem fR {w : MV} {ws : List MV} (k : body (l.set i (.val w)) H = .ret v H₁) : forM i body (w :: ws) l H = .ret v H₁ := by
  show SR.turn (body (l.set i (.val w)) H) _ = _
  rw [k]; rfl
theorem fX {w : MV} {ws : List MV} (k : body (l.set i (.val w)) H = .exm c l₁ H₁) : forM i body (w :: ws) l H = .exm c l₁ H₁ := by
  show SR.turn (body (l.set i (.val w)) H) _ = _
  rw [k]; rfl
theorem xFn {it : MI} (h : evalI P cf it l H = .ok vs H₁) (k : forM i (execSs P cf bb) vs l H₁ = .next l₂ H₂) (k2 : execSs P cf r l₂ H₂ = x) : execSs P cf (.cons (.forr i it bb) r) l H = x := thn (tos h k) k2
theorem xFr {it : MI} (h : evalI P cf it l H = .ok vs H₁) (k : forM i (execSs P cf bb) vs l H₁ = .ret v H₂) : execSs P cf (.cons (.forr i it bb) r) l H = .ret v H₂ := congrArg (SR.then · _) (tos h k : execS P cf (.forr i it bb) l H = _)
theorem xFx {it : MI} (h : evalI P cf it l H = .ok vs H₁) (k : forM i (execSs P cf bb) vs l H₁ = .exm c l₂ H₂) : execSs P cf (.cons (.forr i it bb) r) l H = .exm c l₂ H₂ := congrArg (SR.then · _) (tos h k : execS P cf (.forr i it bb) l H = _)
theorem iR1 {k : Int} (h : evalE P cf e l H = .ok (.int k) H₁) (hk : k.natAbs ≤ 1000) : evalI P cf (.range1 e) l H = .ok (rangeV 0 k) H₁ := bnd h (op (by show guardO (decide _) _ = _; rw [decide_eq_true hk]; rfl) rfl)
theorem iR2 {j k : Int} (h : evalE P cf a l H = .ok (.int j) H₁) (h2 : evalE P cf e l H₁ = .ok (.int k) H₂) (hk : j.natAbs ≤ 1000 ∧ k.natAbs ≤ 1000 ∧ k - j ≤ 1000) : evalI P cf (.range2 a e) l H = .ok (rangeV j k) H₂ :=
  bnd h (bnd h2 (op (by show guardO (decide (j.natAbs ≤ 1000000 ∧ k.natAbs ≤ 1000000 ∧ k - j ≤ 1000)) _ = _; rw [decide_eq_true ⟨Nat.le_trans hk.1 (by decide), Nat.le_trans hk.2.1 (by decide), hk.2.2⟩]; rfl) rfl))
theorem iO {vs : List MV} (h : evalE P cf e l H = .ok (.list vs) H₁) : evalI P cf (.over e) l H = .ok vs H₁ := bnd h rfl
end
theorem runB {np nv : Nat} {bd : MSs} {args : List MV} {y : SR} (hn : args.length = np) (k : execSs P cf bd (args.map .val ++ List.replicate (nv - np) .un) H = y) : runF P cf ⟨np, nv, .body bd⟩ args H = endF y := by
  show (if args.length = np then _ else RS.bad) = _
  rw [if_pos hn, k]
theorem runR {np nv : Nat} {bd : MSs} {args : List MV} (hn : args.length = np) (k : execSs P cf bd (args.map .val ++ List.replicate (nv - np) .un) H = .ret v H₁) : runF P cf ⟨np, nv, .body bd⟩ args H = .ok v H₁ := runB hn k
theorem runN {np nv : Nat} {bd : MSs} {args : List MV} (hn : args.length = np) (k : execSs P cf bd (args.map .val ++ List.replicate (nv - np) .un) H = .next l₁ H₁) : runF P cf ⟨np, nv, .body bd⟩ args H = .ok .none H₁ := runB hn k
theorem runX {np nv c : Nat} {bd : MSs} {args : List MV} (hn : args.length = np) (k : execSs P cf bd (args.map .val ++ List.replicate (nv - np) .un) H = .exm c l₁ H₁) : runF P cf ⟨np, nv, .body bd⟩ args H = .ex c H₁ := runB hn k
theorem callAt {m : MF} {d f : Nat} {args : List MV} {y : RS MV} (h : flook f P.funs = some m) (k : runF P (callN P d) m args H = y) : callN P (d + 1) f args H = y := by
  show (match flook f P.funs with | some m => runF P (callN P d) m args H | Option.none => .bad) = y
  rw [h]; exact k
end
end Mini.L
namespace Mini.L
open Mini
noncomputable def conf1 : MV := .inst 2 [.list [.int 1], .list [], .list [], .list [], .bool false]
noncomputable def hard1 : MV := .inst 1 [.int 1, .int 0, .int 1]
noncomputable def snapE (i t : Nat) : MV := .inst 3 [.int i, .int t, conf1, .bytes []]
noncomputable def dat (t i : Nat) : List Nat := (List.replicate (i % 3) [t]).flatten
noncomputable def en (t i : Nat) : MV := .inst 0 [.int t, .int i, .int 0, .bytes (dat t i)]
structure Lg where
  hd : MV
  cs : MV
  sp : MV
  mx : Nat
  b : Nat
  t : Nat
  st : List MV
  sn : Option (Nat × Nat)
  ue : List MV
  off : Nat
  com : Nat
  app : Nat
noncomputable def snV : Option (Nat × Nat) → MV
  | none => .none
  | some p => snapE p.1 p.2
noncomputable def stO (L : Lg) : MObj := ⟨4, [(12, L.hd), (11, L.cs), (13, L.sp), (14, .int L.b), (15, .int L.t), (16, .list L.st)]⟩
noncomputable def unO (L : Lg) : MObj := ⟨5, [(17, snV L.sn), (16, .list L.ue), (18, .int L.off)]⟩
noncomputable def lgO (u : Nat) (L : Lg) : MObj := ⟨6, [(19, .obj 0), (20, .int L.mx), (21, .obj u), (22, .int L.com), (23, .int L.app)]⟩
abbrev Sh := Option (MObj × MObj × List MObj)
noncomputable def bkO (O : Flds) : MObj := ⟨7, O⟩
noncomputable def HH : Sh → Lg → Flds → MH
  | none, L, O => [stO L, lgO 2 L, unO L, bkO O]
  | some (x, y, r), L, O => stO L :: x :: y :: bkO O :: (r ++ [lgO (r.length + 5) L, unO L])
noncomputable abbrev sx (_ : Sh) : Nat := 0
noncomputable def lx : Sh → Nat
  | none => 1
  | some p => p.2.2.length + 4
noncomputable def ux : Sh → Nat
  | none => 2
  | some p => p.2.2.length + 5
theorem end1 {α : Type} (r : List α) (a b : α) : (r ++ [a, b])[r.length]? = some a := by rw [List.getElem?_append_right (Nat.le_refl _), Nat.sub_self]; rfl
theorem end2 {α : Type} (r : List α) (a b : α) : (r ++ [a, b])[r.length + 1]? = some b := by rw [List.getElem?_append_right (Nat.le_succ _), Nat.succ_sub (Nat.le_refl _), Nat.sub_self]; rfl
theorem hS {p : Sh} {L : Lg} {O : Flds} : (HH p L O)[sx p]? = some (stO L) := match p with | none => rfl | some _ => rfl
theorem hB {p : Sh} {L : Lg} {O : Flds} : (HH p L O)[3]? = some (bkO O) := match p with | none => rfl | some _ => rfl
theorem hU {p : Sh} {L : Lg} {O : Flds} : (HH p L O)[ux p]? = some (unO L) := match p with | none => rfl | some (_, _, r) => end2 r _ _
theorem hL {p : Sh} {L : Lg} {O : Flds} : (HH p L O)[lx p]? = some (lgO (ux p) L) := match p with | none => rfl | some (_, _, r) => end1 r _ _
noncomputable abbrev P := P01.prg
variable {cf : Nat → List MV → MH → RS MV} {p : Sh} {L : Lg} {O : Flds} {H : MH} {i : Nat}
noncomputable def Lg.mf (L : Lg) : MV := match L.sn with | none => .none | some q => .int ((q.1 : Int) + 1)
theorem gO' {H : MH} {k f : Nat} {o : MObj} {cl : MCls} {w : MV} (h : H[k]? = some o) (hc : P.cls[o.c]? = some cl) (hr : cl.record = false) (hf : fget f o.fs = some w) : getAttr P (.obj k) f H = some w := by
  show (none : Option MV).or (H[k]?.bind fun o => P.cls[o.c]?.bind fun cl => if cl.record then none else fget f o.fs) = _
  rw [h]
  show (none : Option MV).or (P.cls[o.c]?.bind fun cl => if cl.record then none else fget f o.fs) = _
  rw [hc]
  show (none : Option MV).or (if cl.record then none else fget f o.fs) = _
  rw [hr]; exact hf
theorem gS : getAttr P (.obj (lx p)) 19 (HH p L O) = some (.obj (sx p)) := gO' hL rfl rfl rfl
theorem gU : getAttr P (.obj (lx p)) 21 (HH p L O) = some (.obj (ux p)) := gO' hL rfl rfl rfl
theorem gC : getAttr P (.obj (lx p)) 22 (HH p L O) = some (.int L.com) := gO' hL rfl rfl rfl
theorem gA : getAttr P (.obj (lx p)) 23 (HH p L O) = some (.int L.app) := gO' hL rfl rfl rfl
theorem gX : getAttr P (.obj (lx p)) 20 (HH p L O) = some (.int L.mx) := gO' hL rfl rfl rfl
theorem gO : getAttr P (.obj (ux p)) 18 (HH p L O) = some (.int L.off) := gO' hU rfl rfl rfl
theorem gE : getAttr P (.obj (ux p)) 16 (HH p L O) = some (.list L.ue) := gO' hU rfl rfl rfl
theorem gN : getAttr P (.obj (ux p)) 17 (HH p L O) = some (snV L.sn) := gO' hU rfl rfl rfl
theorem gB : getAttr P (.obj (sx p)) 14 (HH p L O) = some (.int L.b) := gO' hS rfl rfl rfl
theorem gT : getAttr P (.obj (sx p)) 15 (HH p L O) = some (.int L.t) := gO' hS rfl rfl rfl
theorem gL : getAttr P (.obj (sx p)) 16 (HH p L O) = some (.list L.st) := gO' hS rfl rfl rfl
theorem gK {f : Nat} {w : MV} (h : fget f O = some w) : getKey P (.obj 3) f (HH p L O) = some w := by
  show ((HH p L O)[3]?.bind fun o => if o.c = P.cls.length then fget f o.fs else none) = _
  rw [hB]; exact h
theorem tY {a : ME} {l : Loc} {H H₁ : MH} {v : MV} {b : Bool} (h : evalE P cf a l H = .ok v H₁) (hb : (RS.ok (!isNoneV v) H₁ : RS Bool) = .ok b H₁) : evalT P cf (.notNone a) l H = .ok b H₁ := (bnd h rfl).trans hb
theorem f23 : runF P cf R.f23 [.obj (ux p)] (HH p L O) = .ok L.mf (HH p L O) := by
  cases h : L.sn with
  | none =>
    have g : getAttr P (.obj (ux p)) 17 (HH p L O) = some .none := gN.trans (by rw [h]; rfl)
    rw [show L.mf = .none by unfold Lg.mf; rw [h]]
    exact runR rfl (x0 (tY (eAt rfl g) rfl) rfl (xR rfl))
  | some q =>
    have g : getAttr P (.obj (ux p)) 17 (HH p L O) = some (snapE q.1 q.2) := gN.trans (by rw [h]; rfl)
    rw [show L.mf = .int ((q.1 : Int) + 1) by unfold Lg.mf; rw [h]]
    exact runR rfl (xIr (tY (eAt rfl g) rfl) rfl (xR (eB (eAt (eAt rfl g) rfl) rfl rfl)))
theorem f15 : runF P cf R.f15 [.obj (sx p)] (HH p L O) = .ok (.int ((L.b : Int) + 1)) (HH p L O) := runR rfl (xR (eB (eAt rfl gB) rfl rfl))
theorem f16 : runF P cf R.f16 [.obj (sx p)] (HH p L O) = .ok (.int ((L.b : Int) + L.st.length)) (HH p L O) := runR rfl (xR (eB (eAt rfl gB) (eLen (eAt rfl gL) rfl) rfl))
theorem nz {n m : Nat} (h : n < m) : decide ((n : Int) < (m : Int)) = true := decide_eq_true (Int.ofNat_lt.mpr h)
theorem nf {n m : Nat} (h : m ≤ n) : decide ((n : Int) < (m : Int)) = false := decide_eq_false (Int.not_lt.mpr (Int.ofNat_le.mpr h))
theorem lz {n m : Nat} (h : n ≤ m) : decide ((n : Int) ≤ (m : Int)) = true := decide_eq_true (Int.ofNat_le.mpr h)
theorem lf {n m : Nat} (h : m < n) : decide ((n : Int) ≤ (m : Int)) = false := decide_eq_false (Int.not_le.mpr (Int.ofNat_lt.mpr h))
theorem ez {n m : Nat} (h : n = m) : decide ((n : Int) = (m : Int)) = true := decide_eq_true (congrArg _ h)
theorem ef {n m : Nat} (h : n ≠ m) : decide ((n : Int) = (m : Int)) = false := decide_eq_false fun q => h (Int.ofNat.inj q)
theorem f24a (h : 0 < L.ue.length) : runF P cf R.f24 [.obj (ux p)] (HH p L O) = .ok (.int ((L.off : Int) + L.ue.length - 1)) (HH p L O) :=
  runB rfl (xIr (tC (eLen (eAt rfl gE) rfl) rfl rfl) (nz h) (xR (eB (eB (eAt rfl gO) (eLen (eAt rfl gE) rfl) rfl) rfl rfl)))
theorem f24b (h : L.ue = []) (hs : L.sn = none) : runF P cf R.f24 [.obj (ux p)] (HH p L O) = .ok .none (HH p L O) :=
  runR rfl (x0 (tC (eLen (eAt rfl (gE.trans (by rw [h]))) rfl) rfl rfl) rfl (x0 (tY (eAt rfl (gN.trans (by rw [hs]))) rfl) rfl (xR rfl)))
theorem f24c (h : L.ue = []) {q : Nat × Nat} (hs : L.sn = some q) : runF P cf R.f24 [.obj (ux p)] (HH p L O) = .ok (.int ((L.off : Int) - 1)) (HH p L O) :=
  runR rfl (x0 (tC (eLen (eAt rfl (gE.trans (by rw [h]))) rfl) rfl rfl) rfl (xIr (tY (eAt rfl (gN.trans (by rw [hs]))) rfl) rfl (xR (eB (eAt rfl gO) rfl rfl))))
theorem gNo (hs : L.sn = none) : getAttr P (.obj (ux p)) 17 (HH p L O) = some .none := gN.trans (by rw [hs]; rfl)
theorem gNs {q : Nat × Nat} (hs : L.sn = some q) : getAttr P (.obj (ux p)) 17 (HH p L O) = some (snapE q.1 q.2) := gN.trans (by rw [hs]; rfl)
theorem f25a (h : i < L.off) (hs : L.sn = none) : runF P cf R.f25 [.obj (ux p), .int i] (HH p L O) = .ok .none (HH p L O) :=
  runB rfl (xIr (tC rfl (eAt rfl gO) rfl) (nz h) (x0 (tA (tsX (tY (eAt rfl (gNo hs)) rfl) rfl)) rfl (xR rfl)))
theorem f25b (h : i < L.off) {t : Nat} (hs : L.sn = some (i, t)) : runF P cf R.f25 [.obj (ux p), .int i] (HH p L O) = .ok (.int t) (HH p L O) :=
  runB rfl (xIr (tC rfl (eAt rfl gO) rfl) (nz h) (xIr (tA (tsC (tY (eAt rfl (gNs hs)) rfl) rfl (tsC (tC (eAt (eAt rfl (gNs hs)) rfl) rfl rfl) (ez rfl) tsN))) rfl (xR (eAt (eAt rfl (gNs hs)) rfl))))
theorem f25c (h : i < L.off) {j t : Nat} (hs : L.sn = some (j, t)) (hj : j ≠ i) : runF P cf R.f25 [.obj (ux p), .int i] (HH p L O) = .ok .none (HH p L O) :=
  runB rfl (xIr (tC rfl (eAt rfl gO) rfl) (nz h) (x0 (tA (tsC (tY (eAt rfl (gNs hs)) rfl) rfl (tsX (tC (eAt (eAt rfl (gNs hs)) rfl) rfl rfl) (ef hj)))) rfl (xR rfl)))
theorem f25d (h : L.off + L.ue.length ≤ i) : runF P cf R.f25 [.obj (ux p), .int i] (HH p L O) = .ok .none (HH p L O) := by
  have h1 := Nat.le_trans (Nat.le_add_right ..) h
  exact runB rfl (x0 (tC rfl (eAt rfl gO) rfl) (nf h1) (xIr (tC rfl (eB (eAt rfl gO) (eLen (eAt rfl gE) rfl) rfl) rfl) (lz h) (xR rfl)))
theorem place_nat {n k : Nat} : place n (k : Int) = some k := if_pos (Int.natCast_nonneg k)
theorem idx_list {xs : List MV} {k : Nat} {v : MV} (h : xs[k]? = some v) : idxO (.list xs) (.int (k : Int)) = some v := by
  show ((place xs.length (k : Int)).bind fun n => xs[n]?).or _ = _
  rw [place_nat]
  show (xs[k]?).or _ = _
  rw [h]; rfl
theorem sub_nat {a b : Nat} (h : b ≤ a) : (a : Int) - (b : Int) = ((a - b : Nat) : Int) := (Int.ofNat_sub h).symm
theorem f25e {t : Nat} (h : L.off ≤ i) (hi : L.ue[i - L.off]? = some (en t i)) : runF P cf R.f25 [.obj (ux p), .int i] (HH p L O) = .ok (.int t) (HH p L O) := by
  have h1 : i - L.off < L.ue.length := (List.getElem?_eq_some_iff.mp hi).1
  have h2 : i < L.off + L.ue.length := by lia
  exact runB rfl (x0 (tC rfl (eAt rfl gO) rfl) (nf h) (x0 (tC rfl (eB (eAt rfl gO) (eLen (eAt rfl gE) rfl) rfl) rfl) (lf h2) (xR (eAt (eIx (eAt rfl gE) (eB rfl (eAt rfl gO) rfl) (by rw [sub_nat h]; exact idx_list hi)) rfl))))
end Mini.L
namespace Mini.L
open Mini
noncomputable def es (T : Nat → Nat) (a n : Nat) : List MV := (List.range n).map fun k => en (T (a + k)) (a + k)
theorem es_len {T : Nat → Nat} {a n : Nat} : (es T a n).length = n := by rw [es, List.length_map, List.length_range]
theorem es_get {T : Nat → Nat} {a n k : Nat} (h : k < n) : (es T a n)[k]? = some (en (T (a + k)) (a + k)) := by rw [es, List.getElem?_map, List.getElem?_range h]; rfl
theorem es_succ {T : Nat → Nat} {a n : Nat} : es T a (n + 1) = en (T a) a :: es T (a + 1) n := by
  rw [es, List.range_succ_eq_map, List.map_cons, List.map_map]
  refine congrArg (List.cons _) (List.map_congr_left fun k _ => ?_)
  show en (T (a + (k + 1))) _ = en (T (a + 1 + k)) _
  rw [Nat.add_right_comm, ← Nat.add_assoc]
theorem es_add {T : Nat → Nat} {n : Nat} : ∀ {a m : Nat}, es T a (m + n) = es T a m ++ es T (a + m) n
  | a, 0 => by rw [Nat.zero_add]; rfl
  | a, m + 1 => by rw [Nat.add_right_comm, es_succ, es_succ, List.cons_append, es_add, Nat.add_right_comm a 1 m]; rfl
theorem es_congr {T T' : Nat → Nat} {a n : Nat} (h : ∀ k, a ≤ k → k < a + n → T k = T' k) : es T a n = es T' a n :=
  List.map_congr_left fun k hk => by rw [h (a + k) (Nat.le_add_right ..) (Nat.add_lt_add_left (List.mem_range.mp hk) a)]
theorem es_take {T : Nat → Nat} {a n k : Nat} (h : k ≤ n) : (es T a n).take k = es T a k := by
  obtain ⟨m, rfl⟩ := Nat.le.dest h
  rw [es_add, List.take_left' es_len]
theorem es_drop {T : Nat → Nat} {a n k : Nat} (h : k ≤ n) : (es T a n).drop k = es T (a + k) (n - k) := by
  obtain ⟨m, rfl⟩ := Nat.le.dest h
  rw [es_add, List.drop_left' es_len, Nat.add_sub_cancel_left]
structure Gd (L : Lg) (T : Nat → Nat) (f l o : Nat) : Prop where
  off : L.off = o
  lo : f < o
  hi : o ≤ l + 1
  ue : L.ue = es T o (l + 1 - o)
  bd : l < 100
  tb : ∀ i, i ≤ l → T i < 100
  st : (L.sn = none ∧ L.b = f ∧ L.t = T f ∧ ∃ x, L.st = es T (f + 1) (o - 1 - f) ++ x ∧ (o = l + 1 → x = [])) ∨ (L.sn = some (f, T f) ∧ o = f + 1)
variable {p : Sh} {L : Lg} {O : Flds} {H : MH} {i d f l o : Nat} {T : Nat → Nat}
theorem mO {H : MH} {k m f : Nat} {o : MObj} {cl : MCls} (h : H[k]? = some o) (hc : P.cls[o.c]? = some cl) (hf : flook m cl.meths = some f) : methOf P (.obj k) m H = some f := by
  show ((none : Option Nat).or (H[k]?.map fun o => o.c)).bind _ = _
  rw [h]
  show (P.cls[o.c]?.bind fun cl => flook m cl.meths) = _
  rw [hc]; exact hf
theorem mL {m f : Nat} (h : flook m [(31, 31), (32, 32), (48, 33), (0, 34), (49, 53), (50, 35), (51, 54), (52, 36), (36, 37), (53, 38), (54, 39), (45, 40), (55, 41), (56, 55), (57, 56), (43, 57), (44, 58), (58, 42), (59, 43), (60, 59), (61, 60), (62, 61), (17, 62), (16, 44), (63, 45), (64, 46), (24, 47)] = some f) : methOf P (.obj (lx p)) m (HH p L O) = some f := mO hL rfl h
theorem mU {m f : Nat} (h : flook m [(40, 23), (41, 24), (42, 25), (43, 51), (44, 52), (45, 26), (46, 27), (47, 28), (24, 29)] = some f) : methOf P (.obj (ux p)) m (HH p L O) = some f := mO hU rfl h
theorem mS {m f : Nat} (h : flook m [(31, 15), (32, 16), (33, 17), (34, 18), (17, 48), (36, 19), (37, 49), (38, 50), (39, 20), (24, 21)] = some f) : methOf P (.obj (sx p)) m (HH p L O) = some f := mO hS rfl h
theorem c31 (G : Gd L T f l o) : callN P (d + 2) 31 [.obj (lx p)] (HH p L O) = .ok (.int ((f : Int) + 1)) (HH p L O) := by
  refine callAt rfl (runR rfl (xA (eM (eAt rfl gU) (mU rfl) rfl (callAt rfl f23)) ?_))
  rcases G.st with ⟨h, hb, _⟩ | ⟨h, _⟩
  · have e : L.mf = .none := by unfold Lg.mf; rw [h]
    rw [e]
    exact x0 rfl rfl (xR (eM (eAt rfl gS) (mS rfl) rfl (hb ▸ callAt rfl f15)))
  · have e : L.mf = .int ((f : Int) + 1) := by unfold Lg.mf; rw [h]
    rw [e]
    exact xIr rfl rfl (xR rfl)
theorem Gd.len (G : Gd L T f l o) : o + L.ue.length = l + 1 := by rw [G.ue, es_len]; have := G.hi; lia
theorem c32 (G : Gd L T f l o) : callN P (d + 2) 32 [.obj (lx p)] (HH p L O) = .ok (.int l) (HH p L O) := by
  have hl := G.len
  have ho := G.off
  by_cases hu : 0 < L.ue.length
  · refine callAt rfl (runR rfl (xA (eM (eAt rfl gU) (mU rfl) rfl (callAt rfl (f24a hu))) (xIr rfl rfl (xR ?_))))
    exact congrArg (fun x => RS.ok (MV.int x) _) (by rw [ho]; lia : (L.off : Int) + L.ue.length - 1 = l)
  · have hu : L.ue = [] := List.length_eq_zero_iff.mp (Nat.eq_zero_of_not_pos hu)
    rw [hu] at hl
    have hl : o = l + 1 := hl
    rcases G.st with ⟨h, hb, _, x, hx, h0⟩ | ⟨h, hf⟩
    · refine callAt rfl (runR rfl (xA (eM (eAt rfl gU) (mU rfl) rfl (callAt rfl (f24b hu h))) (x0 rfl rfl (xR (eM (eAt rfl gS) (mS rfl) rfl (callAt rfl ?_))))))
      refine f16.trans (congrArg (fun x => RS.ok (MV.int x) _) ?_)
      rw [hx, h0 hl, List.append_nil, es_len, hb]
      have := G.lo
      lia
    · refine callAt rfl (runR rfl (xA (eM (eAt rfl gU) (mU rfl) rfl (callAt rfl (f24c hu h))) (xIr rfl rfl (xR ?_))))
      exact congrArg (fun x => RS.ok (MV.int x) _) (by rw [ho]; lia : (L.off : Int) - 1 = l)
theorem dn {i j : Int} (h : i < j) : decide (i < j) = true := decide_eq_true h
theorem dm {i j : Int} (h : j ≤ i) : decide (i < j) = false := decide_eq_false (Int.not_lt.mpr h)
theorem f18a (h : i = L.b) : callN P (d + 2) 18 [.obj (sx p), .int i] (HH p L O) = .ok (.int L.t) (HH p L O) := by
  subst h
  refine callAt rfl (runR rfl (x0 (tC rfl (eAt rfl gB) rfl) (nf (Nat.le_refl _)) (x0 (tC rfl (eM rfl (mS rfl) rfl (callAt rfl f16)) rfl) (dm (by lia)) (xIr (tC rfl (eAt rfl gB) rfl) (ez rfl) (xR (eAt rfl gT))))))
theorem f18b {t : Nat} (h : L.b < i) (hi : L.st[i - (L.b + 1)]? = some (en t i)) : callN P (d + 2) 18 [.obj (sx p), .int i] (HH p L O) = .ok (.int t) (HH p L O) := by
  have hl := (List.getElem?_eq_some_iff.mp hi).1
  refine callAt rfl (runR rfl (x0 (tC rfl (eAt rfl gB) rfl) (nf (Nat.le_of_lt h)) (x0 (tC rfl (eM rfl (mS rfl) rfl (callAt rfl f16)) rfl) (dm (by lia)) (x0 (tC rfl (eAt rfl gB) rfl) (ef (Nat.ne_of_gt h))
    (xR (eAt (v := en t i) (eIx (eAt rfl gL) (eB rfl (eM rfl (mS rfl) rfl (callAt rfl f15)) rfl) ?_) rfl))))))
  rw [show (i : Int) - ((L.b : Int) + 1) = ((i - (L.b + 1) : Nat) : Int) by lia]
  exact idx_list hi
theorem c34 (G : Gd L T f l o) (h1 : f ≤ i) (h2 : i ≤ l) : callN P (d + 3) 34 [.obj (lx p), .int i] (HH p L O) = .ok (.int (T i)) (HH p L O) := by
  have ho := G.off
  have st : ∀ {x : List MV}, L.st = es T (f + 1) (o - 1 - f) ++ x → L.b = f → f < i → i < o → L.st[i - (L.b + 1)]? = some (en (T i) i) := fun e hb hf hi => by
    rw [e, hb, List.getElem?_append_left (by rw [es_len]; lia), es_get (by lia), show f + 1 + (i - (f + 1)) = i by lia]
  by_cases hi : o ≤ i
  · have hg : L.ue[i - L.off]? = some (en (T i) i) := by rw [G.ue, ho, es_get (by lia), show o + (i - o) = i by lia]
    exact callAt rfl (runR rfl (xA (eM (eAt rfl gU) (mU rfl) rfl (callAt rfl (f25e (by lia) hg))) (xIr rfl rfl (xR rfl))))
  · rcases G.st with ⟨h, hb, ht, x, hx, _⟩ | ⟨h, hf⟩
    · refine callAt rfl (runR rfl (xA (eM (eAt rfl gU) (mU rfl) rfl (callAt rfl (f25a (by lia) h))) (x0 rfl rfl (x0 (tC rfl (eM rfl (mL rfl) rfl (c31 G)) rfl) (dm (by lia)) (x0 (tC rfl (eM rfl (mL rfl) rfl (c32 G)) rfl) (nf h2) (xR (eM (eAt rfl gS) (mS rfl) rfl ?_)))))))
      by_cases hf : i = f
      · exact (f18a (hf.trans hb.symm)).trans (by rw [ht, hf])
      · exact f18b (by lia) (st hx hb (by lia) (by lia))
    · have : i = f := by lia
      subst this
      exact callAt rfl (runR rfl (xA (eM (eAt rfl gU) (mU rfl) rfl (callAt rfl (f25b (by lia) h))) (xIr rfl rfl (xR rfl))))
end Mini.L
namespace Mini.L
open Mini
variable {p : Sh} {L : Lg} {O : Flds} {H : MH} {i d f l o t : Nat} {T : Nat → Nat}
theorem c34c (G : Gd L T f l o) (h : i < f) : callN P (d + 3) 34 [.obj (lx p), .int i] (HH p L O) = .ex 4 (HH p L O) := by
  have ho := G.off
  have hl := G.lo
  have hh := G.hi
  have hb := G.bd
  have k : callN P (d + 2) 25 [.obj (ux p), .int i] (HH p L O) = .ok .none (HH p L O) := by
    rcases G.st with ⟨h, _⟩ | ⟨h, _⟩
    · exact callAt rfl (f25a (by lia) h)
    · exact callAt rfl (f25c (by lia) h (by lia))
  exact callAt rfl (runX rfl (xA (eM (eAt rfl gU) (mU rfl) rfl k) (x0 rfl rfl (xIx (tC rfl (eM rfl (mL rfl) rfl (c31 G)) rfl) (dn (by lia)) (xX (eCons rfl (eCons (eM rfl (mL rfl) rfl (c31 G)) rfl)) (aI (by lia) (aI (by lia) rfl)))))))
theorem c34u (G : Gd L T f l o) (h : l < i) (hi : i < 100000) : callN P (d + 3) 34 [.obj (lx p), .int i] (HH p L O) = .ex 5 (HH p L O) := by
  have hl := G.len
  have ho := G.off
  have hl2 := G.lo
  have hh := G.hi
  have hb := G.bd
  exact callAt rfl (runX rfl (xA (eM (eAt rfl gU) (mU rfl) rfl (callAt rfl (f25d (by lia)))) (x0 rfl rfl (x0 (tC rfl (eM rfl (mL rfl) rfl (c31 G)) rfl) (dm (by lia)) (xIx (tC rfl (eM rfl (mL rfl) rfl (c32 G)) rfl) (nz h) (xX (eCons rfl (eCons (eM rfl (mL rfl) rfl (c32 G)) rfl)) (aI (by lia) (aI (by lia) rfl))))))))
theorem c35 (G : Gd L T f l o) (h1 : f ≤ i) (h2 : i ≤ l) : callN P (d + 4) 35 [.obj (lx p), .int i, .int t] (HH p L O) = .ok (.bool (decide (T i = t))) (HH p L O) :=
  callAt rfl (runR rfl (xTr (xR ((eC (eM rfl (mL rfl) rfl (c34 G h1 h2)) rfl rfl).trans (congrArg (fun x => RS.ok (MV.bool x) _) (decide_eq_decide.mpr Int.ofNat_inj))))))
theorem c35x (G : Gd L T f l o) (h : i < f ∨ l < i) (hi : i < 100000) : callN P (d + 4) 35 [.obj (lx p), .int i, .int t] (HH p L O) = .ok (.bool false) (HH p L O) := by
  rcases h with h | h
  · exact callAt rfl (runR rfl (xTc (rX (bnx (eM rfl (mL rfl) rfl (c34c G h)))) rfl))
  · exact callAt rfl (runR rfl (xTc (rX (bnx (eM rfl (mL rfl) rfl (c34u G h hi)))) rfl))
noncomputable def cbt (T : Nat → Nat) (f t : Nat) : Nat → Nat × Nat
  | 0 => (0, 0)
  | n + 1 => if n + 1 < f then (n + 1, 0) else if T (n + 1) ≤ t then (n + 1, T (n + 1)) else cbt T f t n
noncomputable def loc4 (a b c e : MV) : Loc := [.val a, .val b, .val c, .val e]
noncomputable def bd39 : MSs := match R.f39.fk with | .body (.cons (.whil _ _ b) _) => b | _ => .nil
noncomputable def ts39 : MT := match R.f39.fk with | .body (.cons (.whil _ t _) _) => t | _ => .and .nil
theorem loop39 (G : Gd L T f l o) : ∀ (n N : Nat) (x : LV), n ≤ l → n < N →
    (cbt T f t n = (0, 0) ∧ ∃ y, whileM (evalT P (callN P (d + 3)) ts39) (execSs P (callN P (d + 3)) bd39) N [.val (.obj (lx p)), .val (.int n), .val (.int t), x] (HH p L O) = .next [.val (.obj (lx p)), .val (.int (0 : Nat)), .val (.int t), y] (HH p L O)) ∨
    whileM (evalT P (callN P (d + 3)) ts39) (execSs P (callN P (d + 3)) bd39) N [.val (.obj (lx p)), .val (.int n), .val (.int t), x] (HH p L O) = .ret (.tup [.int (cbt T f t n).1, .int (cbt T f t n).2]) (HH p L O)
  | 0, N + 1, x, _, _ => .inl ⟨rfl, x, w0 rfl (nf (Nat.le_refl 0))⟩
  | n + 1, N + 1, x, hl, hN => by
    have hb := G.bd
    by_cases h1 : n + 1 < f
    · refine .inr ?_
      rw [show cbt T f t (n + 1) = (n + 1, 0) from if_pos h1]
      exact wR rfl (nz (Nat.succ_pos n)) (xTc (aX (eM rfl (mL rfl) rfl (c34c G h1))) rfl)
    · have hc : cbt T f t (n + 1) = if T (n + 1) ≤ t then (n + 1, T (n + 1)) else cbt T f t n := if_neg h1
      by_cases h2 : T (n + 1) ≤ t
      · refine .inr ?_
        rw [hc, if_pos h2]
        exact wR rfl (nz (Nat.succ_pos n)) (xTn (xA (eM rfl (mL rfl) rfl (c34 G (by lia) hl)) rfl) (xIr rfl (lz h2) (xR rfl)))
      · rw [hc, if_neg h2]
        have ih := loop39 G n N (.val (.int (T (n + 1)))) (by lia) (by lia)
        have st : ∀ y, whileM (evalT P (callN P (d + 3)) ts39) (execSs P (callN P (d + 3)) bd39) N [.val (.obj (lx p)), .val (.int n), .val (.int t), .val (.int (T (n + 1)))] (HH p L O) = y →
            whileM (evalT P (callN P (d + 3)) ts39) (execSs P (callN P (d + 3)) bd39) (N + 1) [.val (.obj (lx p)), .val (.int ((n + 1 : Nat) : Int)), .val (.int t), x] (HH p L O) = y := fun y k =>
          wT rfl (nz (Nat.succ_pos n)) (xTn (xA (eM rfl (mL rfl) rfl (c34 G (by lia) hl)) rfl) (x0 rfl (lf (by lia)) (xG (w := .int ((n + 1 : Nat) : Int)) (u := .int n) rfl rfl (congrArg (fun x => some (MV.int x)) (by lia : ((n + 1 : Nat) : Int) - 1 = n)) rfl))) k
        exact ih.imp (fun ⟨a, y, b⟩ => ⟨a, y, st _ b⟩) fun b => st _ b
theorem c39 (G : Gd L T f l o) {n : Nat} (hn : n ≤ l) : callN P (d + 4) 39 [.obj (lx p), .int n, .int t] (HH p L O) = .ok (.tup [.int (cbt T f t n).1, .int (cbt T f t n).2]) (HH p L O) := by
  have hb := G.bd
  rcases loop39 (d := d) (p := p) (O := O) (t := t) G n 100 .un hn (by lia) with ⟨h, y, k⟩ | k
  · rw [h]; exact callAt rfl (runR rfl (xWn k (xR rfl)))
  · exact callAt rfl (runR rfl (xWr k))
end Mini.L
namespace Mini.L
open Mini
variable {p : Sh} {L : Lg} {O : Flds} {H : MH} {i d f l o t n : Nat} {T : Nat → Nat} {x : LV}
theorem c0 (h : n < 128) : callN P (d + 1) 0 [.int n] H = .ok (.int 1) H :=
  callAt rfl (runR rfl (x0 (tO (tsC rfl (dm (Int.natCast_nonneg n)) (tsC rfl (dm (by lia)) tsN))) rfl (xA rfl (xWn (w0 rfl (lf h)) (xR rfl)))))
theorem dat_len : (dat t i).length = i % 3 := by rw [dat, len_flat]; exact Nat.mul_one _
noncomputable def sz (i : Nat) : Nat := 4 + i % 3
theorem c4 (ht : t < 128) (hi : i < 128) : callN P (d + 2) 4 [en t i] H = .ok (.int (sz i)) H := by
  have hd : callN P (d + 1) 0 [.int ((dat t i).length : Nat)] H = .ok (.int 1) H := c0 (by rw [dat_len]; lia)
  refine callAt rfl (runR rfl (xA rfl (xA (eB (eB (eCl rfl (c0 ht)) (eCl rfl (c0 hi)) rfl) (eCl rfl (c0 (Nat.succ_pos _))) rfl) (xR ?_))))
  refine (eB (eB rfl (eCl rfl hd) rfl) rfl rfl).trans (congrArg (fun x => RS.ok (MV.int x) _) ?_)
  rw [sz, dat_len]; lia
noncomputable def grow (lim : Nat) : Nat → Nat → Nat → Bool → Nat
  | 0, _, _, _ => 0
  | m + 1, i, tot, fst => if fst = false ∧ lim < tot + sz i then 0 else 1 + grow lim m (i + 1) (tot + sz i) false
theorem grow_le {lim : Nat} : ∀ {m i tot : Nat} {b : Bool}, grow lim m i tot b ≤ m
  | 0, _, _, _ => Nat.le_refl 0
  | m + 1, i, tot, b => by
    unfold grow
    split
    · exact Nat.zero_le _
    · rw [Nat.add_comm]; exact Nat.succ_le_succ grow_le
theorem grow_pos {lim m i tot : Nat} : 1 ≤ grow lim (m + 1) i tot true := by
  unfold grow
  rw [if_neg (fun h => nomatch h.1)]; lia
theorem grow_all {lim : Nat} : ∀ {m i tot : Nat} {b : Bool}, tot + 6 * m ≤ lim → grow lim m i tot b = m
  | 0, _, _, _, _ => rfl
  | m + 1, i, tot, b, h => by
    have hs : sz i ≤ 6 := by unfold sz; lia
    unfold grow
    rw [if_neg (fun h => by lia), grow_all (by lia)]; lia
theorem grow_cut {lim m' : Nat} : ∀ {m i tot : Nat} {b : Bool}, grow lim m i tot b < m → grow lim (m + m') i tot b = grow lim m i tot b
  | 0, _, _, _, h => absurd h (Nat.not_lt_zero _)
  | m + 1, i, tot, b, h => by
    rw [Nat.add_right_comm]
    unfold grow at h ⊢
    split
    · rfl
    · rename_i q
      rw [if_neg q] at h
      rw [grow_cut (by lia)]
noncomputable def bd5 : MSs := match R.f5.fk with | .body (.cons _ (.cons _ (.cons (.forr _ _ b) _))) => b | _ => .nil
theorem loop5 {lim : Nat} {E : MV} (hT : ∀ j, j < i + n → T j < 128) : ∀ (m a tot : Nat) (kept : List MV) (x : LV), a + m = i + n → a + m < 128 → kept.length + m < 1000 →
    ∃ v2 v4, forM 4 (execSs P (callN P (d + 2)) bd5) (es T a m) [.val E, .val (.int lim), .val (.int tot), .acc kept, x] H = .next [.val E, .val (.int lim), v2, .acc (kept ++ es T a (grow lim m a tot kept.isEmpty)), v4] H
  | 0, a, tot, kept, x, _, _, _ => ⟨_, _, by rw [show grow lim 0 a tot kept.isEmpty = 0 from rfl, show es T a 0 = [] from rfl, List.append_nil]; rfl⟩
  | m + 1, a, tot, kept, x, h1, h2, h3 => by
    have hs := c4 (d := d) (H := H) (hT a (by lia)) (show a < 128 by lia)
    have e := es_succ (T := T) (a := a) (n := m)
    rw [e]
    by_cases hk : kept.isEmpty = false ∧ lim < tot + sz a
    · rw [show grow lim (m + 1) a tot kept.isEmpty = 0 from if_pos hk, show es T a 0 = [] from rfl, List.append_nil]
      exact ⟨_, _, fB (xG (w := .int tot) (u := .int ((tot + sz a : Nat) : Int)) rfl (eM rfl rfl rfl hs) rfl (xIb (tA (tsC rfl (congrArg not hk.1) (tsC rfl (nz hk.2) tsN))) rfl rfl))⟩
    · have hg : grow lim (m + 1) a tot kept.isEmpty = grow lim m (a + 1) (tot + sz a) false + 1 := (if_neg hk).trans (Nat.add_comm ..)
      obtain ⟨v2, v4, ih⟩ := loop5 hT m (a + 1) (tot + sz a) (kept ++ [en (T a) a]) (.val (en (T a) a)) (by lia) (by lia) (by rw [List.length_append]; show kept.length + 1 + m < 1000; lia)
      have he : (kept ++ [en (T a) a]).isEmpty = false := by cases kept <;> rfl
      rw [he, List.append_assoc, List.singleton_append, ← es_succ, ← hg] at ih
      refine ⟨v2, v4, fN (xG (w := .int tot) (u := .int ((tot + sz a : Nat) : Int)) rfl (eM rfl rfl rfl hs) rfl ?_) ih⟩
      have fin : ∀ {H}, execSs P (callN P (d + 2)) (.cons (.accApp 3 (.var 4)) .nil) [.val E, .val (.int lim), .val (.int ((tot + sz a : Nat) : Int)), .acc kept, .val (en (T a) a)] H = .next [.val E, .val (.int lim), .val (.int ((tot + sz a : Nat) : Int)), .acc (kept ++ [en (T a) a]), .val (en (T a) a)] H := xP rfl rfl (by lia) rfl
      cases hke : kept.isEmpty with
      | true => exact x0 (tA (tsX rfl (congrArg not hke))) rfl fin
      | false => exact x0 (tA (tsC rfl (congrArg not hke) (tsX rfl (nf (Nat.le_of_not_lt fun q => hk ⟨hke, q⟩))))) rfl fin
theorem c5 {lim m a : Nat} (hT : ∀ j, j < a + m → T j < 128) (hm : a + m < 128) : callN P (d + 3) 5 [.list (es T a m), .int lim] H = .ok (.list (es T a (grow lim m a 0 true))) H := by
  obtain ⟨v2, v4, k⟩ := loop5 (d := d) (H := H) (E := .list (es T a m)) (lim := lim) hT m a 0 [] .un rfl hm (by show 0 + m < 1000; lia)
  exact callAt rfl (runR rfl (xA rfl (xN rfl (xFn (iO rfl) k (xZ rfl (xR rfl))))))
end Mini.L
namespace Mini.L
open Mini
variable {p : Sh} {L : Lg} {O : Flds} {H : MH} {i d f l o t n lo hi lim : Nat} {T : Nat → Nat} {x : LV}
theorem minN {i j : Nat} : (if (j : Int) < (i : Int) then (j : Int) else (i : Int)) = ((min i j : Nat) : Int) := by split <;> lia
theorem maxN {i j : Nat} : (if (i : Int) < (j : Int) then (j : Int) else (i : Int)) = ((max i j : Nat) : Int) := by split <;> lia
theorem minP {i j : Nat} (h : 1 ≤ j) : (if (j : Int) - ((1 : Nat) : Int) < (i : Int) then (j : Int) - ((1 : Nat) : Int) else (i : Int)) = ((min i (j - 1) : Nat) : Int) := by split <;> lia
theorem bound_nat {n k : Nat} (h : k ≤ n) : bound n (k : Int) = k := by
  unfold bound
  rw [if_neg (by lia)]; lia
theorem sl {xs : List MV} {a b : Int} {j k : Nat} (ha : a = j) (hb : b = k) (hj : j ≤ k) (hk : k ≤ xs.length) : sliceO (.list xs) (bd (.int a)) (bd (.int b)) = some (.list ((xs.take k).drop j)) := by
  subst ha; subst hb
  show some (MV.list (cut xs (bound xs.length j) (bound xs.length k))) = _
  rw [bound_nat hk, bound_nat (Nat.le_trans hj hk)]; rfl
theorem eSl {P : Prg} {cf : Nat → List MV → MH → RS MV} {l : Loc} {e a b : ME} {u v w y : MV} {H H₁ H₂ H₃ : MH} (h : evalE P cf e l H = .ok v H₁) (h1 : evalE P cf a l H₁ = .ok u H₂) (h2 : evalE P cf b l H₂ = .ok w H₃) (h3 : sliceO v (bd u) (bd w) = some y) : evalE P cf (.sliceLU e a b) l H = .ok y H₃ :=
  bnd h (bnd h1 (bnd h2 (op h3 rfl)))
theorem eMinV {P : Prg} {cf : Nat → List MV → MH → RS MV} {l : Loc} {a b : ME} {i j k : Int} {H H₁ H₂ : MH} (h : evalE P cf a l H = .ok (.int i) H₁) (h2 : evalE P cf b l H₁ = .ok (.int j) H₂) (e : (if j < i then j else i) = k) : evalE P cf (.min2 a b) l H = .ok (.int k) H₂ := e ▸ eMin h h2
theorem eMax {P : Prg} {cf : Nat → List MV → MH → RS MV} {l : Loc} {a b : ME} {i j : Int} {H H₁ H₂ : MH} (h : evalE P cf a l H = .ok (.int i) H₁) (h2 : evalE P cf b l H₁ = .ok (.int j) H₂) : evalE P cf (.max2 a b) l H = .ok (.int (if i < j then j else i)) H₂ := bnd h (bnd h2 rfl)
theorem add_list {xs ys : List MV} (h : xs.length + ys.length ≤ 1000) : binop .add (.list xs) (.list ys) = some (.list (xs ++ ys)) := by
  show (guardO (decide (xs.length + ys.length ≤ 1000)) _ : Option MV) = _
  rw [decide_eq_true h]; rfl
theorem eMaxV {P : Prg} {cf : Nat → List MV → MH → RS MV} {l : Loc} {a b : ME} {i j k : Int} {H H₁ H₂ : MH} (h : evalE P cf a l H = .ok (.int i) H₁) (h2 : evalE P cf b l H₁ = .ok (.int j) H₂) (e : (if i < j then j else i) = k) : evalE P cf (.max2 a b) l H = .ok (.int k) H₂ := e ▸ eMax h h2
theorem c28 (h1 : L.off ≤ lo) (h2 : lo ≤ hi) (h3 : hi ≤ L.off + L.ue.length) : callN P (d + 1) 28 [.obj (ux p), .int lo, .int hi] (HH p L O) = .ok (.list ((L.ue.take (hi - L.off)).drop (lo - L.off))) (HH p L O) :=
  callAt rfl (runR rfl (x0 rfl (nf h2) (x0 (tO (tsC (tC rfl (eAt rfl gO) rfl) (nf h1) (tsC (tC rfl (eB (eAt rfl gO) (eLen (eAt rfl gE) rfl) rfl) rfl) (nf h3) tsN))) rfl
    (xR (eSl (eAt rfl gE) (eB rfl (eAt rfl gO) rfl) (eB rfl (eAt rfl gO) rfl) (sl (sub_nat h1) (sub_nat (Nat.le_trans h1 h2)) (Nat.sub_le_sub_right h2 _) (by lia)))))))
theorem es_part {a m j k : Nat} (h1 : j ≤ k) (h2 : k ≤ m) : ((es T a m).take k).drop j = es T (a + j) (k - j) := by rw [es_take h2, es_drop h1]
theorem c17 {xs : List MV} (hs : L.st = es T (f + 1) n ++ xs) (hb : L.b = f) (h1 : f < lo) (h2 : lo < hi) (h3 : hi ≤ f + 1 + n) (hn : f + 1 + n < 128) (hT : ∀ j, j < f + 1 + n → T j < 128) :
    callN P (d + 4) 17 [.obj (sx p), .int lo, .int hi, .int lim] (HH p L O) = .ok (.list (es T lo (grow lim (hi - lo) lo 0 true))) (HH p L O) := by
  have hl : L.st.length = n + xs.length := by rw [hs, List.length_append, es_len]
  have e : (L.st.take (hi - (f + 1))).drop (lo - (f + 1)) = es T lo (hi - lo) := by
    rw [hs, List.take_append_of_le_length (by rw [es_len]; lia), es_part (by lia) (by lia), show f + 1 + (lo - (f + 1)) = lo by lia, show hi - (f + 1) - (lo - (f + 1)) = hi - lo by lia]
  refine callAt rfl (runR rfl (x0 (tC rfl (eAt rfl gB) rfl) (lf (by lia)) ?_))
  refine x0 (tC rfl (eB (eM rfl (mS rfl) rfl (callAt rfl f16)) rfl rfl) rfl) (dm (by rw [hl, hb]; lia)) ?_
  refine x0 rfl (lf h2) (xA (eM rfl (mS rfl) rfl (callAt rfl f15)) ?_)
  refine xR (eCl (eCons (eSl (eAt rfl gL) rfl rfl (sl (xs := L.st) (j := lo - (f + 1)) (k := hi - (f + 1)) (by rw [hb]; lia) (by rw [hb]; lia) (by lia) (by lia))) (eCons rfl rfl)) ?_)
  rw [e]
  exact c5 (fun j hj => hT j (by lia)) (by lia)
theorem c46g (G : Gd L T f l o) (h1 : f < lo) (h2 : lo < hi) (h3 : hi ≤ l + 1) : callN P (d + 5) 46 [.obj (lx p), .int lo, .int hi, .int lim] (HH p L O) = .ok (.list (es T lo (grow lim (hi - lo) lo 0 true))) (HH p L O) := by
  have ho := G.off
  have hh := G.hi
  have hb := G.bd
  have hu := G.ue
  have hlen : L.ue.length = l + 1 - o := by rw [hu, es_len]
  have hT : ∀ j, j < l + 1 → T j < 128 := fun j hj => Nat.lt_trans (G.tb j (by lia)) (by decide)
  have k5 : callN P (d + 4) 5 [.list (es T lo (hi - lo)), .int lim] (HH p L O) = .ok (.list (es T lo (grow lim (hi - lo) lo 0 true))) (HH p L O) := c5 (fun j hj => hT j (by lia)) (by lia)
  refine callAt rfl (runR rfl (x0 rfl (dm (by lia)) (x0 (tC rfl (eM rfl (mL rfl) rfl (c31 G)) rfl) (dm (by lia)) (x0 (tC rfl (eB (eM rfl (mL rfl) rfl (c32 G)) rfl rfl) rfl) (dm (by lia)) (x0 rfl (decide_eq_false (by lia))
    (xA (eAt (eAt rfl gU) gO) (xA rfl ?_)))))))
  by_cases hlo : lo < o
  · obtain ⟨hs, hbf, ht, xs, hx, h0⟩ := G.st.resolve_right fun h => by lia
    obtain ⟨q, hq⟩ : ∃ q, q = min hi o := ⟨_, rfl⟩
    have k17 : callN P (d + 4) 17 [.obj (sx p), .int lo, .int q, .int lim] (HH p L O) = .ok (.list (es T lo (grow lim (q - lo) lo 0 true))) (HH p L O) := c17 hx hbf h1 (by lia) (by lia) (by lia) (fun j hj => hT j (by lia))
    have kmin : (if (L.off : Int) < (hi : Int) then (L.off : Int) else (hi : Int)) = (q : Int) := by rw [ho, hq]; exact minN (i := hi) (j := o)
    by_cases hk : grow lim (q - lo) lo 0 true < q - lo
    · have e : grow lim (hi - lo) lo 0 true = grow lim (q - lo) lo 0 true := by
        rw [show hi - lo = q - lo + (hi - q) by lia]; exact grow_cut hk
      rw [e]
      refine xIr rfl (nz (by lia)) (xA (eMinV rfl rfl kmin) (xTn (xA (eM (eAt rfl gS) (mS rfl) rfl k17) rfl) (xIr (tC rfl rfl rfl) (dn ?_) (xR rfl))))
      show ((es T lo _).length : Int) < (q : Int) - (lo : Int)
      rw [es_len]; lia
    · have hk : grow lim (q - lo) lo 0 true = q - lo := Nat.le_antisymm grow_le (Nat.le_of_not_lt hk)
      rw [hk] at k17
      refine xI (l₂ := [.val (.obj (lx p)), .val (.int lo), .val (.int hi), .val (.int lim), .val (.int L.off), .val (.list (es T lo (q - lo))), .val (.int q)]) rfl (nz (by lia)) (xA (eMinV rfl rfl kmin) (xTn (xA (eM (eAt rfl gS) (mS rfl) rfl k17) rfl) (x0 (tC rfl rfl rfl) (dm ?_) rfl))) ?_
      · show (q : Int) - (lo : Int) ≤ ((es T lo _).length : Int)
        rw [es_len]; lia
      by_cases hoe : hi ≤ o
      · have hq : q = hi := by lia
        refine x0 rfl (dm (by rw [ho]; lia)) (xR (eCl rfl ?_))
        rw [hq]; exact k5
      · have hq : o = q := by lia
        subst hq
        have k28 : callN P (d + 4) 28 [.obj (ux p), .int o, .int hi] (HH p L O) = .ok (.list (es T o (hi - o))) (HH p L O) := by
          refine (c28 (by lia) (by lia) (by lia)).trans (congrArg (fun x => RS.ok (MV.list x) _) ?_)
          rw [hu, es_part (by lia) (by lia), ho, Nat.sub_self]; rfl
        have kmax : (if (lo : Int) < (L.off : Int) then (L.off : Int) else (lo : Int)) = (o : Int) := by rw [if_pos (by lia), ho]
        refine xI rfl (dn (by lia)) (xA (eB rfl (eM (eAt rfl gU) (mU rfl) (eCons (eMaxV rfl rfl kmax) (eCons rfl rfl)) k28) (add_list (by rw [es_len, es_len]; lia))) rfl) (xR (eCl rfl ?_))
        have e : es T lo (o - lo) ++ es T o (hi - o) = es T lo (hi - lo) := by
          rw [show hi - lo = (o - lo) + (hi - o) by lia, es_add, show lo + (o - lo) = o by lia]
        rw [e]; exact k5
  · have k28 : callN P (d + 4) 28 [.obj (ux p), .int lo, .int hi] (HH p L O) = .ok (.list (es T lo (hi - lo))) (HH p L O) := by
      refine (c28 (by lia) (by lia) (by lia)).trans (congrArg (fun x => RS.ok (MV.list x) _) ?_)
      rw [hu, es_part (by lia) (by lia), ho, show o + (lo - o) = lo by lia, show hi - o - (lo - o) = hi - lo by lia]
    have kmax : (if (lo : Int) < (L.off : Int) then (L.off : Int) else (lo : Int)) = (lo : Int) := if_neg (by lia)
    refine x0 rfl (nf (by lia)) (xI rfl (dn (by lia)) (xA (eB rfl (eM (eAt rfl gU) (mU rfl) (eCons (eMaxV rfl rfl kmax) (eCons rfl rfl)) k28) (add_list (by rw [es_len]; show 0 + _ ≤ 1000; lia))) rfl) (xR (eCl rfl ?_)))
    exact k5
theorem c46 (G : Gd L T f l o) (h1 : f < lo) (h2 : lo ≤ l) : callN P (d + 5) 46 [.obj (lx p), .int lo, .int ((l : Int) + 1), .int lim] (HH p L O) = .ok (.list (es T lo (grow lim (l + 1 - lo) lo 0 true))) (HH p L O) := c46g (hi := l + 1) G h1 (Nat.lt_succ_of_le h2) (Nat.le_refl _)
theorem c44 (G : Gd L T f l o) (h1 : f < lo) (h2 : lo ≤ l + 1) : callN P (d + 6) 44 [.obj (lx p), .int lo, .int lim] (HH p L O) = .ok (.list (es T lo (grow lim (l + 1 - lo) lo 0 true))) (HH p L O) := by
  by_cases h : lo ≤ l
  · exact callAt rfl (runR rfl (x0 (tC rfl (eM rfl (mL rfl) rfl (c32 G)) rfl) (nf h) (xR (eM rfl (mL rfl) (eCons rfl (eCons (eB (eM rfl (mL rfl) rfl (c32 G)) rfl rfl) (eCons rfl rfl))) (c46 G h1 h)))))
  · have e : l + 1 - lo = 0 := by lia
    rw [e]
    exact callAt rfl (runR rfl (xIr (tC rfl (eM rfl (mL rfl) rfl (c32 G)) rfl) (nz (by lia)) (xR rfl)))
theorem c45 (G : Gd L T f l o) (h : f ≤ l) : callN P (d + 7) 45 [.obj (lx p)] (HH p L O) = .ok (.list (es T (f + 1) (l - f))) (HH p L O) := by
  have hb := G.bd
  refine callAt rfl (runR rfl (xR (eM rfl (mL rfl) (eCons (eM rfl (mL rfl) rfl (c31 G)) (eCons rfl rfl)) ((c44 (lo := f + 1) (lim := 18446744073709551615) G (by lia) (by lia)).trans ?_))))
  rw [grow_all (by lia), show l + 1 - (f + 1) = l - f by lia]
end Mini.L
namespace Mini.L
open Mini
variable {p : Sh} {L : Lg} {O : Flds} {H : MH} {i d f l o t n m c : Nat} {T M : Nat → Nat} {x : LV}
theorem seO {H : MH} {k f : Nat} {ob : MObj} {w : MV} (h : H[k]? = some ob) (hc : (setOk P ob.c f && decide (ob.fs.length < 100)) = true) : setO P (.obj k) f w H = some (H.set k ⟨ob.c, fput f w ob.fs⟩) := by
  show (H[k]?.bind fun ob => guardO (setOk P ob.c f && decide (ob.fs.length < 100)) (H.set k ⟨ob.c, fput f w ob.fs⟩)) = _
  rw [h]
  show guardO (setOk P ob.c f && decide (ob.fs.length < 100)) _ = _
  rw [hc]; rfl
theorem set1 {α : Type} (r : List α) (a b c : α) : (r ++ [a, b]).set r.length c = r ++ [c, b] := by rw [List.set_append_right _ _ (Nat.le_refl _), Nat.sub_self]; rfl
theorem set2 {α : Type} (r : List α) (a b c : α) : (r ++ [a, b]).set (r.length + 1) c = r ++ [a, c] := by rw [List.set_append_right _ _ (Nat.le_succ _), Nat.succ_sub (Nat.le_refl _), Nat.sub_self]; rfl
theorem pS {a : MObj} {L' : Lg} (h : a = stO L') (h1 : ∀ k, lgO k L' = lgO k L) (h2 : unO L' = unO L) : (HH p L O).set (sx p) a = HH p L' O := by
  subst h
  match p with
  | none => show [stO L', lgO 2 L, unO L, bkO O] = [stO L', lgO 2 L', unO L', bkO O]; rw [h1, h2]
  | some (x, y, r) => show stO L' :: x :: y :: bkO O :: (r ++ [lgO (r.length + 5) L, unO L]) = stO L' :: x :: y :: bkO O :: (r ++ [lgO (r.length + 5) L', unO L']); rw [h1, h2]
theorem pL {a : MObj} {L' : Lg} (h : a = lgO (ux p) L') (h1 : stO L' = stO L) (h2 : unO L' = unO L) : (HH p L O).set (lx p) a = HH p L' O := by
  subst h
  match p with
  | none => show [stO L, lgO 2 L', unO L, bkO O] = [stO L', lgO 2 L', unO L', bkO O]; rw [h1, h2]
  | some (x, y, r) =>
    show stO L :: x :: y :: bkO O :: (r ++ [lgO (r.length + 5) L, unO L]).set r.length (lgO (r.length + 5) L') = stO L' :: x :: y :: bkO O :: (r ++ [lgO (r.length + 5) L', unO L'])
    rw [set1, h1, h2]
theorem pU {a : MObj} {L' : Lg} (h : a = unO L') (h1 : stO L' = stO L) (h2 : ∀ k, lgO k L' = lgO k L) : (HH p L O).set (ux p) a = HH p L' O := by
  subst h
  match p with
  | none => show [stO L, lgO 2 L, unO L', bkO O] = [stO L', lgO 2 L', unO L', bkO O]; rw [h1, h2]
  | some (x, y, r) =>
    show stO L :: x :: y :: bkO O :: (r ++ [lgO (r.length + 5) L, unO L]).set (r.length + 1) (unO L') = stO L' :: x :: y :: bkO O :: (r ++ [lgO (r.length + 5) L', unO L'])
    rw [set2, h1, h2]
theorem pB {O' : Flds} : (HH p L O).set 3 (bkO O') = HH p L O' := match p with | none => rfl | some _ => rfl
theorem sE {xs : List MV} : setO P (.obj (ux p)) 16 (.list xs) (HH p L O) = some (HH p { L with ue := xs } O) := (seO hU rfl).trans (congrArg some (pU rfl rfl fun _ => rfl))
theorem sO {k : Nat} : setO P (.obj (ux p)) 18 (.int k) (HH p L O) = some (HH p { L with off := k } O) := (seO hU rfl).trans (congrArg some (pU rfl rfl fun _ => rfl))
theorem sN {k t : Nat} : setO P (.obj (ux p)) 17 (snapE k t) (HH p L O) = some (HH p { L with sn := some (k, t) } O) := (seO hU rfl).trans (congrArg some (pU rfl rfl fun _ => rfl))
theorem sNo : setO P (.obj (ux p)) 17 .none (HH p L O) = some (HH p { L with sn := none } O) := (seO hU rfl).trans (congrArg some (pU rfl rfl fun _ => rfl))
theorem sC {k : Nat} : setO P (.obj (lx p)) 22 (.int k) (HH p L O) = some (HH p { L with com := k } O) := (seO hL rfl).trans (congrArg some (pL rfl rfl rfl))
theorem sA {k : Nat} : setO P (.obj (lx p)) 23 (.int k) (HH p L O) = some (HH p { L with app := k } O) := (seO hL rfl).trans (congrArg some (pL rfl rfl rfl))
theorem sL {xs : List MV} : setO P (.obj (sx p)) 16 (.list xs) (HH p L O) = some (HH p { L with st := xs } O) := (seO hS rfl).trans (congrArg some (pS rfl (fun _ => rfl) rfl))
theorem sB {k : Nat} : setO P (.obj (sx p)) 14 (.int k) (HH p L O) = some (HH p { L with b := k } O) := (seO hS rfl).trans (congrArg some (pS rfl (fun _ => rfl) rfl))
theorem sT {k : Nat} : setO P (.obj (sx p)) 15 (.int k) (HH p L O) = some (HH p { L with t := k } O) := (seO hS rfl).trans (congrArg some (pS rfl (fun _ => rfl) rfl))
theorem sSp {w : MV} : setO P (.obj (sx p)) 13 w (HH p L O) = some (HH p { L with sp := w } O) := (seO hS rfl).trans (congrArg some (pS rfl (fun _ => rfl) rfl))
theorem sCs {w : MV} : setO P (.obj (sx p)) 11 w (HH p L O) = some (HH p { L with cs := w } O) := (seO hS rfl).trans (congrArg some (pS rfl (fun _ => rfl) rfl))
theorem sHd {w : MV} : setO P (.obj (sx p)) 12 w (HH p L O) = some (HH p { L with hd := w } O) := (seO hS rfl).trans (congrArg some (pS rfl (fun _ => rfl) rfl))
theorem sK {f : Nat} {u w : MV} (h : fget f O = some u) (hz : O.length < 100) : setK P (.obj 3) f w (HH p L O) = some (HH p L (fput f w O)) := by
  show ((HH p L O)[3]?.bind fun ob => guardO (decide (ob.c = P.cls.length ∧ ob.fs.length < 100) && (fget f ob.fs).isSome) ((HH p L O).set 3 ⟨ob.c, fput f w ob.fs⟩)) = _
  rw [hB]
  show guardO (decide ((7 : Nat) = P.cls.length ∧ O.length < 100) && (fget f O).isSome) _ = _
  rw [h, decide_eq_true (⟨rfl, hz⟩ : (7 : Nat) = P.cls.length ∧ O.length < 100)]
  exact congrArg some pB
theorem eSA {P : Prg} {cf : Nat → List MV → MH → RS MV} {l : Loc} {e : ME} {xs : List MV} {H H₁ : MH} (h : evalE P cf e l H = .ok (.list xs) H₁) : evalE P cf (.sliceA e) l H = .ok (.list xs) H₁ := (bnd h (op (c := MV.list xs) (by
  show some (MV.list ((xs.take xs.length).drop 0)) = _
  rw [List.take_length]; rfl) rfl))
theorem eSL {P : Prg} {cf : Nat → List MV → MH → RS MV} {l : Loc} {e a : ME} {xs : List MV} {k : Int} {j : Nat} {H H₁ H₂ : MH} (h : evalE P cf e l H = .ok (.list xs) H₁) (h1 : evalE P cf a l H₁ = .ok (.int k) H₂) (hk : k = j) (hj : j ≤ xs.length) : evalE P cf (.sliceL e a) l H = .ok (.list (xs.drop j)) H₂ := (bnd h (bnd h1 (op (c := MV.list (xs.drop j)) (by
  subst hk
  show some (MV.list ((xs.take xs.length).drop (bound xs.length j))) = _
  rw [List.take_length, bound_nat hj]) rfl)))
noncomputable def mix (c : Nat) (T M : Nat → Nat) : Nat → Nat := fun i => if i < c then T i else M i
theorem es_mix_lo {a k : Nat} (h : a + k ≤ c) : es (mix c T M) a k = es T a k := es_congr fun j _ h2 => if_pos (by lia)
theorem es_mix_hi {a k : Nat} (h : c ≤ a) : es (mix c T M) a k = es M a k := es_congr fun j h1 _ => if_neg (by lia)
theorem es_mix {a k j : Nat} (h : a + k = c) : es T a k ++ es M c j = es (mix c T M) a (k + j) := by
  rw [es_add, es_mix_lo (Nat.le_of_eq h), es_mix_hi (Nat.le_of_eq h.symm), h]
noncomputable def Lg.put (L : Lg) (T M : Nat → Nat) (o c m : Nat) : Lg := { L with off := min o c, ue := es (mix c T M) (min o c) (c + m - min o c) }
theorem Gd.put (G : Gd L T f l o) (hm : 1 ≤ m) (hc : f < c) (hc2 : c ≤ l + 1) (hb : c + m ≤ 100) (hM : ∀ i, c ≤ i → i < c + m → M i < 100) : Gd (L.put T M o c m) (mix c T M) f (c + m - 1) (min o c) := by
  have hl := G.lo
  have hh := G.hi
  refine ⟨rfl, by lia, by lia, ?_, by lia, fun i hi => ?_, ?_⟩
  · show es _ _ _ = es _ _ _
    rw [show c + m - 1 + 1 = c + m by lia]
  · unfold mix
    split
    · exact G.tb i (by lia)
    · exact hM i (by lia) (by lia)
  · rcases G.st with ⟨h, hb, ht, x, hx, h0⟩ | ⟨h, hf⟩
    · refine .inl ⟨h, hb, ht.trans (if_pos hc).symm, es T (min o c) (o - min o c) ++ x, ?_, fun q => by lia⟩
      show L.st = _
      rw [hx, ← List.append_assoc, es_mix_lo (by lia), show o - 1 - f = (min o c - 1 - f) + (o - min o c) by lia, es_add, show f + 1 + (min o c - 1 - f) = min o c by lia]
    · exact .inr ⟨h.trans (by unfold mix; rw [if_pos hc]), by lia⟩
theorem es_first (hm : 1 ≤ m) : (es M c m)[0]? = some (en (M c) c) := es_get hm
theorem c27 (G : Gd L T f l o) (hm : 1 ≤ m) (hc : f < c) (hc2 : c ≤ l + 1) (hb : c + m ≤ 100) : callN P (d + 2) 27 [.obj (ux p), .list (es M c m)] (HH p L O) = .ok .none (HH p (L.put T M o c m) O) := by
  have ho := G.off
  have hl := G.len
  have hu := G.ue
  have hh := G.hi
  have hlen : (es M c m).length = m := es_len
  have hul : L.ue.length = l + 1 - o := by rw [hu, es_len]
  refine callAt rfl (runN (l₁ := [.val (.obj (ux p)), .val (.list (es M c m)), .val (.int c)]) rfl (x0 (tC (v := .int m) (eLen rfl (congrArg (fun k : Nat => some (MV.int k)) hlen)) rfl rfl) (decide_eq_false (by lia)) (xA (eAt (v := en (M c) c) (eIx rfl rfl (idx_list (k := 0) (es_first hm))) rfl) ?_)))
  by_cases h1 : c = l + 1
  · refine xI (tC rfl (eB (eAt rfl gO) (eLen (eAt rfl gE) rfl) rfl) rfl) (ez (m := L.off + L.ue.length) (by lia)) (xS (eB (eAt rfl gE) rfl (add_list (by lia))) rfl sE rfl) ?_
    have e : { L with ue := L.ue ++ es M c m } = L.put T M o c m := by
      unfold Lg.put
      rw [hu, es_mix (by lia), show min o c = o by lia, ho, show l + 1 - o + m = c + m - o by lia]
    rw [e]; rfl
  · by_cases h2 : c ≤ o
    · refine xL (tC rfl (eB (eAt rfl gO) (eLen (eAt rfl gE) rfl) rfl) rfl) (ef (m := L.off + L.ue.length) (by lia)) (xI (tC rfl (eAt rfl gO) rfl) (lz (by lia)) (xS rfl rfl sO (xS (eSA rfl) rfl sE rfl)) rfl) ?_
      have e : { L with off := c, ue := es M c m } = L.put T M o c m := by
        unfold Lg.put
        rw [show min o c = c by lia, es_mix_hi (Nat.le_refl c), Nat.add_sub_cancel_left]
      rw [← e]; rfl
    · have k28 : callN P (d + 1) 28 [.obj (ux p), .int L.off, .int c] (HH p L O) = .ok (.list (es T o (c - o))) (HH p L O) := by
        refine (c28 (Nat.le_refl _) (by lia) (by lia)).trans (congrArg (fun x => RS.ok (MV.list x) _) ?_)
        rw [hu, es_part (by lia) (by lia), ho, Nat.sub_self]; rfl
      refine xL (tC rfl (eB (eAt rfl gO) (eLen (eAt rfl gE) rfl) rfl) rfl) (ef (m := L.off + L.ue.length) (by lia)) (xL (tC rfl (eAt rfl gO) rfl) (lf (by lia)) (xI (tC rfl (eB (eAt rfl gO) (eLen (eAt rfl gE) rfl) rfl) rfl) (nz (m := L.off + L.ue.length) (by lia)) (xS (eB (eM rfl (mU rfl) (eCons (eAt rfl gO) (eCons rfl rfl)) k28) rfl (add_list (by rw [es_len, es_len]; lia))) rfl sE rfl) rfl) rfl) ?_
      have e : { L with ue := es T o (c - o) ++ es M c m } = L.put T M o c m := by
        unfold Lg.put
        rw [es_mix (by lia), show min o c = o by lia, ho, show c - o + m = c + m - o by lia]
      rw [e]; rfl
theorem c37 (G : Gd L T f l o) (hm : 1 ≤ m) (hc : f < c) (hc2 : c ≤ l + 1) (hb : c + m ≤ 100) (hM : ∀ i, c ≤ i → i < c + m → M i < 100) (hcom : L.com < c) :
    callN P (d + 3) 37 [.obj (lx p), .list (es M c m)] (HH p L O) = .ok (.int ((c + m - 1 : Nat) : Int)) (HH p (L.put T M o c m) O) := by
  have hlen : (es M c m).length = m := es_len
  refine callAt rfl (runR rfl (x0 (tC (v := .int m) (eLen rfl (congrArg (fun k : Nat => some (MV.int k)) hlen)) rfl rfl) (decide_eq_false (by lia)) (xA (eB (eAt (v := en (M c) c) (eIx rfl rfl (idx_list (k := 0) (es_first hm))) rfl) rfl rfl) ?_)))
  refine x0 (tC rfl (eAt rfl gC) rfl) (dm (by lia)) (x0 (tC rfl (eM rfl (mL rfl) rfl (c32 G)) rfl) (dm (by lia)) (xE (eM (eAt rfl gU) (mU rfl) rfl (c27 G hm hc hc2 hb)) (xR (eM rfl (mL rfl) rfl (c32 (G.put hm hc hc2 hb hM))))))
noncomputable def fcon (T M : Nat → Nat) (l : Nat) : Nat → Nat → Nat
  | 0, _ => 0
  | n + 1, a => if a ≤ l ∧ T a = M a then fcon T M l n (a + 1) else a
noncomputable def bd38 : MSs := match R.f38.fk with | .body (.cons (.forr _ _ b) _) => b | _ => .nil
theorem loop38 (G : Gd L T f l o) {E : MV} : ∀ (n a : Nat) (x : LV), f ≤ a → 1 ≤ a → a + n < 1000 →
    (fcon T M l n a = 0 ∧ ∃ y, forM 2 (execSs P (callN P (d + 4)) bd38) (es M a n) [.val (.obj (lx p)), .val E, x] (HH p L O) = .next [.val (.obj (lx p)), .val E, y] (HH p L O)) ∨
    forM 2 (execSs P (callN P (d + 4)) bd38) (es M a n) [.val (.obj (lx p)), .val E, x] (HH p L O) = .ret (.int (fcon T M l n a)) (HH p L O)
  | 0, a, x, _, _, _ => .inl ⟨rfl, x, rfl⟩
  | n + 1, a, x, h1, h2, h3 => by
    rw [es_succ]
    by_cases h : a ≤ l ∧ T a = M a
    · rw [show fcon T M l (n + 1) a = fcon T M l n (a + 1) from if_pos h]
      have st : ∀ y, forM 2 (execSs P (callN P (d + 4)) bd38) (es M (a + 1) n) [.val (.obj (lx p)), .val E, .val (en (M a) a)] (HH p L O) = y → forM 2 (execSs P (callN P (d + 4)) bd38) (en (M a) a :: es M (a + 1) n) [.val (.obj (lx p)), .val E, x] (HH p L O) = y := fun y k =>
        fN (x0 (tN (bnd (eM rfl (mL rfl) rfl (c35 G h1 h.1)) rfl)) (congrArg not (decide_eq_true h.2)) rfl) k
      exact (loop38 G n (a + 1) (.val (en (M a) a)) (by lia) (by lia) (by lia)).imp (fun ⟨e, y, k⟩ => ⟨e, y, st _ k⟩) fun k => st _ k
    · rw [show fcon T M l (n + 1) a = a from if_neg h]
      refine .inr (fR ?_)
      by_cases h4 : a ≤ l
      · exact xIr (tN (bnd (eM rfl (mL rfl) rfl (c35 G h1 h4)) rfl)) (congrArg not (decide_eq_false fun e => h ⟨h4, e⟩)) (xR rfl)
      · exact xIr (tN (bnd (eM rfl (mL rfl) rfl (c35x G (.inr (by lia)) (by lia))) rfl)) rfl (xR rfl)
theorem c38 (G : Gd L T f l o) {a : Nat} (h1 : f ≤ a) (h2 : 1 ≤ a) (h3 : a + n < 1000) : callN P (d + 5) 38 [.obj (lx p), .list (es M a n)] (HH p L O) = .ok (.int (fcon T M l n a)) (HH p L O) := by
  rcases loop38 (d := d) (p := p) (O := O) (M := M) (E := .list (es M a n)) G n a .un h1 h2 h3 with ⟨e, y, k⟩ | k
  · rw [e]; exact callAt rfl (runR rfl (xFn (iO rfl) k (xR rfl)))
  · exact callAt rfl (runR rfl (xFr (iO rfl) k))
theorem c41 (G : Gd L T f l o) (h : i ≤ l) : callN P (d + 3) 41 [.obj (lx p), .int i] (HH p L O) = .ok .none (HH p { L with com := max L.com i } O) := by
  by_cases hc : i ≤ L.com
  · have e : { L with com := max L.com i } = L := by rw [show max L.com i = L.com by lia]
    rw [e]
    exact callAt rfl (runR rfl (xIr (tC rfl (eAt rfl gC) rfl) (lz hc) (xR rfl)))
  · rw [show max L.com i = i by lia]
    exact callAt rfl (runN rfl (x0 (tC rfl (eAt rfl gC) rfl) (lf (by lia)) (x0 (tC rfl (eM rfl (mL rfl) rfl (c32 G)) rfl) (nf h) (xS rfl rfl sC rfl))))
theorem Gd.com (G : Gd L T f l o) (k : Nat) : Gd { L with com := k } T f l o := ⟨G.off, G.lo, G.hi, G.ue, G.bd, G.tb, G.st⟩
end Mini.L
namespace Mini.L
open Mini
variable {p : Sh} {L : Lg} {O : Flds} {H : MH} {i d f l o n m c k t cm : Nat} {T M : Nat → Nat} {x : LV}
theorem range_nat {a b : Nat} : rangeV (a : Int) (b : Int) = (List.range' a (b - a)).map fun (j : Nat) => MV.int (j : Int) := by
  unfold rangeV
  rw [show ((b : Int) - (a : Int)).toNat = b - a by lia, List.range'_eq_map_range, List.map_map]; rfl
theorem iR1n {P : Prg} {cf : Nat → List MV → MH → RS MV} {l : Loc} {e : ME} {H H₁ : MH} (h : evalE P cf e l H = .ok (.int n) H₁) (hn : n ≤ 1000) : evalI P cf (.range1 e) l H = .ok ((List.range' 0 n).map fun (j : Nat) => MV.int (j : Int)) H₁ :=
  (iR1 h (by lia)).trans (congrArg (RS.ok · H₁) (range_nat (a := 0)))
theorem iR2n {P : Prg} {cf : Nat → List MV → MH → RS MV} {l : Loc} {e a : ME} {j k : Int} {H H₁ H₂ : MH} (h : evalE P cf a l H = .ok (.int j) H₁) (h2 : evalE P cf e l H₁ = .ok (.int k) H₂) (hj : j = m) (hk : k = n) (hn : m ≤ 1000 ∧ n ≤ 1000) : evalI P cf (.range2 a e) l H = .ok ((List.range' m (n - m)).map fun (j : Nat) => MV.int (j : Int)) H₂ := by
  subst hj; subst hk
  exact (iR2 h h2 (by lia)).trans (congrArg (RS.ok · H₂) range_nat)
noncomputable def bd36 : MSs := match R.f36.fk with | .body (.cons _ (.cons (.forr _ _ b) _)) => b | _ => .nil
noncomputable def loc36 (s i t c e : MV) (x : LV) : Loc := [.val s, .val i, .val t, .val c, .val e, x, .un, .un]
def Ixd (E : List MV) (j k : Nat) : Prop := ∃ v, E[j]? = some v ∧ ∀ H, getAttr P v 1 H = some (.int k)
theorem loop36 {E : List MV} {s u w : MV} : ∀ (m a : Nat) (x : LV), (∀ j, a ≤ j → j < a + m → Ixd E j (i + 1 + j)) →
    ∃ y, forM 5 (execSs P (callN P d) bd36) ((List.range' a m).map fun (j : Nat) => MV.int (j : Int)) (loc36 s (.int i) u w (.list E) x) H = .next (loc36 s (.int i) u w (.list E) y) H
  | 0, _, x, _ => ⟨x, rfl⟩
  | m + 1, a, x, h => by
    obtain ⟨v, h1, h2⟩ := h a (Nat.le_refl _) (by lia)
    obtain ⟨y, k⟩ := loop36 m (a + 1) (.val (.int a)) fun j hj hm => h j (by lia) (by lia)
    refine ⟨y, ?_⟩
    rw [List.range'_succ, List.map_cons]
    exact fN (x0 (tC (eAt (eIx rfl rfl (idx_list h1)) (h2 H)) rfl rfl) (congrArg not (ez rfl)) rfl) k
theorem es_ixd {a n j : Nat} (h : j < n) : Ixd (es M a n) j (a + j) := ⟨_, es_get h, fun _ => rfl⟩
theorem c36n (G : Gd L T f l o) (h1 : f ≤ i) (hi : i < 1000) (h : l < i ∨ T i ≠ t) {E : MV} : callN P (d + 5) 36 [.obj (lx p), .int i, .int t, .int cm, E] (HH p L O) = .ok .none (HH p L O) := by
  by_cases h4 : i ≤ l
  · exact callAt rfl (runR rfl (xIr (tN (bnd (eM rfl (mL rfl) rfl (c35 G h1 h4)) rfl)) (congrArg not (decide_eq_false (h.resolve_left (by lia)))) (xR rfl)))
  · exact callAt rfl (runR rfl (xIr (tN (bnd (eM rfl (mL rfl) rfl (c35x G (.inr (by lia)) (by lia))) rfl)) rfl (xR rfl)))
theorem fcon_spec : ∀ {n a : Nat}, 1 ≤ a → (fcon T M l n a = 0 ∧ ∀ j, a ≤ j → j < a + n → j ≤ l ∧ T j = M j) ∨ (a ≤ fcon T M l n a ∧ fcon T M l n a < a + n ∧ (∀ j, a ≤ j → j < fcon T M l n a → j ≤ l ∧ T j = M j) ∧ ¬ (fcon T M l n a ≤ l ∧ T (fcon T M l n a) = M (fcon T M l n a)))
  | 0, a, _ => .inl ⟨rfl, fun j h1 h2 => absurd h2 (by lia)⟩
  | n + 1, a, h => by
    unfold fcon
    split
    · rename_i q
      rcases fcon_spec (n := n) (a := a + 1) (by lia) with ⟨e, h2⟩ | ⟨e1, e2, e3, e4⟩
      · exact .inl ⟨e, fun j h3 h4 => if hj : j = a then hj ▸ q else h2 j (by lia) (by lia)⟩
      · exact .inr ⟨by lia, by lia, fun j h3 h4 => if hj : j = a then hj ▸ q else e3 j (by lia) h4, e4⟩
    · rename_i q
      exact .inr ⟨Nat.le_refl _, by lia, fun j h3 h4 => absurd h4 (by lia), q⟩
theorem c36s (G : Gd L T f l o) (h1 : f ≤ i) (h2 : i ≤ l) (ht : T i = t) (hn : i + n < 100) (hc : fcon T M l n (i + 1) = 0) (hl : i + n ≤ l) : callN P (d + 6) 36 [.obj (lx p), .int i, .int t, .int cm, .list (es M (i + 1) n)] (HH p L O) = .ok (.int ((i + n : Nat) : Int)) (HH p { L with com := max L.com (min cm (i + n)) } O) := by
  have hlen : (es M (i + 1) n).length = n := es_len
  obtain ⟨y, k⟩ := loop36 (d := d + 5) (H := HH p L O) (E := es M (i + 1) n) (s := .obj (lx p)) (u := .int t) (w := .int cm) (i := i) n 0 .un fun j _ hj => es_ixd (by lia)
  refine callAt rfl (runR rfl (x0 (tN (bnd (eM rfl (mL rfl) rfl (c35 G h1 h2)) rfl)) (congrArg not (decide_eq_true ht)) (xFn (iR1n (eLen rfl (congrArg (fun k : Nat => some (MV.int k)) hlen)) (by lia)) k ?_)))
  refine xA (eB (w := .int n) rfl (eLen rfl (congrArg (fun k : Nat => some (MV.int k)) hlen)) rfl) (xA (eM rfl (mL rfl) rfl (c38 G (by lia) (by lia) (by lia))) ?_)
  rw [hc]
  refine x0 rfl rfl (xE (eM rfl (mL rfl) (eCons (eMinV (k := ((min cm (i + n) : Nat) : Int)) rfl rfl (minN (i := cm) (j := i + n))) rfl) (c41 G (by lia))) (xR rfl))
theorem c36c (G : Gd L T f l o) (h1 : f ≤ i) (h2 : i ≤ l) (ht : T i = t) (hn : i + n < 100) (hc : fcon T M l n (i + 1) = c) (hf : i < c) (hcn : c ≤ i + n) (hcl : c ≤ l + 1) (hM : ∀ j, j ≤ i + n → M j < 100) (hcom : L.com < c) :
    callN P (d + 6) 36 [.obj (lx p), .int i, .int t, .int cm, .list (es M (i + 1) n)] (HH p L O) = .ok (.int ((i + n : Nat) : Int)) (HH p { L.put T M o c (i + n + 1 - c) with com := max L.com (min cm (i + n)) } O) := by
  have hlen : (es M (i + 1) n).length = n := es_len
  obtain ⟨y, k⟩ := loop36 (d := d + 5) (H := HH p L O) (E := es M (i + 1) n) (s := .obj (lx p)) (u := .int t) (w := .int cm) (i := i) n 0 .un fun j _ hj => es_ixd (by lia)
  refine callAt rfl (runR rfl (x0 (tN (bnd (eM rfl (mL rfl) rfl (c35 G h1 h2)) rfl)) (congrArg not (decide_eq_true ht)) (xFn (iR1n (eLen rfl (congrArg (fun k : Nat => some (MV.int k)) hlen)) (by lia)) k ?_)))
  refine xA (eB (w := .int n) rfl (eLen rfl (congrArg (fun k : Nat => some (MV.int k)) hlen)) rfl) (xA (eM rfl (mL rfl) rfl (c38 G (by lia) (by lia) (by lia))) ?_)
  rw [hc]
  have hd : (es M (i + 1) n).drop (c - (i + 1)) = es M c (i + n + 1 - c) := by
    rw [es_drop (by lia), show i + 1 + (c - (i + 1)) = c by lia, show n - (c - (i + 1)) = i + n + 1 - c by lia]
  have k37 := c37 (p := p) (O := O) (d := d + 2) G (M := M) (m := i + n + 1 - c) (c := c) (by lia) (by lia) hcl (by lia) (fun j _ hj => hM j (by lia)) hcom
  have G' := G.put (M := M) (m := i + n + 1 - c) (c := c) (by lia) (by lia) hcl (by lia) (fun j _ hj => hM j (by lia))
  rw [← hd] at k37
  refine xI rfl (congrArg not (decide_eq_false (by lia))) (x0 (tC rfl (eAt rfl gC) rfl) (lf hcom) (xE (eM rfl (mL rfl) (eCons (eSL (j := c - (i + 1)) rfl rfl (by lia) (by lia)) rfl) k37) rfl)) (xE (eM rfl (mL rfl) (eCons (eMinV (k := ((min cm (i + n) : Nat) : Int)) rfl rfl (minN (i := cm) (j := i + n))) rfl) (c41 G' (by lia))) (xR rfl))
theorem c40 (G : Gd L T f l o) (h : L.com ≤ k) : callN P (d + 2) 40 [.obj (lx p), snapE k t] (HH p L O) = .ok .none (HH p { L with com := k, off := k + 1, ue := [], sn := some (k, t) } O) := by
  have k26 : ∀ {L : Lg}, callN P (d + 1) 26 [.obj (ux p), snapE k t] (HH p L O) = .ok .none (HH p { L with off := k + 1, ue := [], sn := some (k, t) } O) := fun {L} => callAt rfl (runN rfl (xS rfl rfl (sO (k := k + 1)) (xS rfl rfl sE (xS rfl rfl sN rfl))))
  exact callAt rfl (runN rfl (x0 (tC rfl (eAt rfl gC) rfl) (nf h) (xS rfl rfl sC (xE (eM (eAt rfl gU) (mU rfl) rfl k26) rfl))))
theorem c42 : callN P (d + 1) 42 [.obj (lx p)] (HH p L O) = .ok (.list L.ue) (HH p L O) := callAt rfl (runR rfl (xR (eSA (eAt (eAt rfl gU) gE))))
theorem c33 (G : Gd L T f l o) (h : f ≤ l) : callN P (d + 4) 33 [.obj (lx p)] (HH p L O) = .ok (.int (T l)) (HH p L O) :=
  callAt rfl (runR rfl (xTr (xR (eM rfl (mL rfl) (eCons (eM rfl (mL rfl) rfl (c32 G)) rfl) (c34 G h (Nat.le_refl _))))))
theorem tY' {P : Prg} {cf : Nat → List MV → MH → RS MV} {a : ME} {l : Loc} {H H₁ : MH} {v : MV} {b : Bool} (h : evalE P cf a l H = .ok v H₁) (hb : (RS.ok (.bool (!isNoneV v)) H₁ : RS MV) = .ok (.bool b) H₁) : evalE P cf (.notNone a) l H = .ok (.bool b) H₁ := (bnd h rfl).trans hb
theorem c43 : callN P (d + 2) 43 [.obj (lx p)] (HH p L O) = .ok (.bool (match L.sn with | none => false | some q => !decide ((q.1 : Int) = 0))) (HH p L O) := by
  cases h : L.sn with
  | none => exact callAt rfl (runR rfl (xR ((bnd (tY' (eAt (eAt rfl gU) (gNo h)) rfl) rfl))))
  | some q =>
    have e28 : evalE P (callN P (d + 1)) (.meth (.attr (.attr (.var 0) 21) 17) 28 .nil) [.val (.obj (lx p))] (HH p L O) = .ok (.bool (decide ((q.1 : Int) = 0))) (HH p L O) := eM (eAt (eAt rfl gU) (gNs h)) rfl rfl (callAt rfl (runR rfl (xR (eC rfl rfl rfl))))
    have e1 : evalE P (callN P (d + 1)) (.not (.meth (.attr (.attr (.var 0) 21) 17) 28 .nil)) [.val (.obj (lx p))] (HH p L O) = .ok (.bool (!decide ((q.1 : Int) = 0))) (HH p L O) := bnd e28 rfl
    exact callAt rfl (runR rfl (xR (bnd (tY' (eAt (eAt rfl gU) (gNs h)) rfl) e1)))
end Mini.L
namespace Mini.L
open Mini
variable {p : Sh} {L : Lg} {O : Flds} {H : MH} {i d f l o n m c k t cm : Nat} {T M : Nat → Nat} {x : LV}
theorem eqvs_self : ∀ {l : List MV}, (∀ v ∈ l, eqv v v = true) → eqvs l l = true
  | [], _ => rfl
  | v :: r, h => by
    show (((v :: r).head?.any (eqv v)) && eqvs r r) = true
    rw [show (v :: r).head?.any (eqv v) = eqv v v from rfl, h v (.head _), eqvs_self fun w hw => h w (.tail _ hw)]; rfl
theorem eqv_self : ∀ (n : Nat) (v : MV), plain n v = true → eqv v v = true
  | _, .none, _ => rfl
  | _, .bool b, _ => by cases b <;> rfl
  | _, .int i, _ => decide_eq_true rfl
  | _, .bytes l, _ => beq_self_eq_true l
  | n + 1, .tup l, h => eqvs_self fun v hv => eqv_self n v (List.all_eq_true.mp h v hv)
  | n + 1, .list l, h => eqvs_self fun v hv => eqv_self n v (List.all_eq_true.mp h v hv)
  | 0, .tup _, h => nomatch h
  | 0, .list _, h => nomatch h
  | n, .inst .., h => by cases n <;> cases h
  | n, .obj .., h => by cases n <;> cases h
theorem ne_self {v : MV} (h : plain 8 v = true) (hi : v.int? = none) : cmpop .ne v v = some false := by
  show (intz v v _).or (cmpO .ne v v) = _
  unfold intz
  rw [hi]
  show guardO (plain 8 v && eqv v v) false = _
  rw [h, eqv_self 8 v h]; rfl
noncomputable def er (t i : Nat) : MV := .tup [.int t, .int i, .int 0, .bytes (dat t i)]
noncomputable def rs (T : Nat → Nat) (a n : Nat) : List MV := (List.range n).map fun k => er (T (a + k)) (a + k)
theorem rs_succ {a n : Nat} : rs T a (n + 1) = er (T a) a :: rs T (a + 1) n := by
  rw [rs, List.range_succ_eq_map, List.map_cons, List.map_map]
  refine congrArg (List.cons _) (List.map_congr_left fun k _ => ?_)
  show er (T (a + (k + 1))) _ = er (T (a + 1 + k)) _
  rw [Nat.add_right_comm, ← Nat.add_assoc]
theorem rs_congr {T T' : Nat → Nat} {a n : Nat} (h : ∀ k, a ≤ k → k < a + n → T k = T' k) : rs T a n = rs T' a n :=
  List.map_congr_left fun k hk => by rw [h (a + k) (Nat.le_add_right ..) (Nat.add_lt_add_left (List.mem_range.mp hk) a)]
theorem rs_plain {a n : Nat} : ((rs T a n).all (plain 5)) = true := List.all_eq_true.mpr fun v hv => by
  obtain ⟨j, _, rfl⟩ := List.mem_map.mp hv; rfl
theorem rs_plain7 {a n : Nat} : plain 8 (.list (rs T a n)) = true := List.all_eq_true.mpr fun v hv => by
  obtain ⟨j, _, rfl⟩ := List.mem_map.mp hv; rfl
noncomputable def bd29 : MSs := match R.f29.fk with | .body (.cons _ (.cons (.forr _ _ b) _)) => b | _ => .nil
theorem loop29 {s u : LV} : ∀ (m a : Nat) (ks : List MV) (x : LV), ks.length + m < 1000 → ∃ y, forM 2 (execSs P (callN P (d + 1)) bd29) (es T a m) [s, .acc ks, x, u] H = .next [s, .acc (ks ++ rs T a m), y, u] H
  | 0, a, ks, x, _ => ⟨x, by rw [show rs T a 0 = [] from rfl, List.append_nil]; rfl⟩
  | m + 1, a, ks, x, h => by
    obtain ⟨y, k⟩ := loop29 m (a + 1) (ks ++ [er (T a) a]) (.val (en (T a) a)) (by rw [List.length_append]; show ks.length + 1 + m < _; lia)
    refine ⟨y, ?_⟩
    rw [es_succ, rs_succ]
    rw [List.append_assoc, List.singleton_append] at k
    exact fN (xP rfl (eM rfl rfl rfl (callAt rfl rfl)) (by lia) rfl) k
noncomputable def confR : MV := .tup [.tup [.int 1], .tup [], .tup [], .tup [], .bool false]
noncomputable def snR : Option (Nat × Nat) → MV
  | none => .none
  | some q => .tup [.int q.1, .int q.2, confR, .bytes []]
theorem c29 (G : Gd L T f l o) : callN P (d + 3) 29 [.obj (ux p)] (HH p L O) = .ok (.tup [.int L.off, .tup (rs T o (l + 1 - o)), snR L.sn]) (HH p L O) := by
  have hb := G.bd
  obtain ⟨y, k⟩ := loop29 (d := d + 1) (H := HH p L O) (T := T) (s := .val (.obj (ux p))) (u := .un) (l + 1 - o) o [] .un (by show 0 + _ < 1000; lia)
  refine callAt rfl (runR rfl (xN rfl (xFn (iO (eAt rfl gE)) (G.ue ▸ k) (xA rfl ?_))))
  cases hs : L.sn with
  | none => exact x0 (c := false) (bnd (eAt rfl gN) (by rw [hs]; rfl)) rfl (xZ rfl (xR (eTup (eCons (eAt rfl gO) (eCons rfl (eCons rfl rfl))))))
  | some q =>
    have hv : getAttr P (.obj (ux p)) 17 (HH p L O) = some (snapE q.1 q.2) := by rw [gN, hs]; rfl
    exact xI (c := true) (bnd (eAt rfl hv) rfl) rfl (xA (eM (eAt rfl hv) rfl rfl (callAt rfl rfl)) rfl) (xZ rfl (xR (eTup (eCons (eAt rfl gO) (eCons rfl (eCons rfl rfl))))))
theorem c47 (G : Gd L T f l o) : ∃ v, plain 8 v = true ∧ v.int? = none ∧ ∀ d, callN P (d + 4) 47 [.obj (lx p)] (HH p L O) = .ok v (HH p L O) := by
  refine ⟨.tup [.int L.com, .int L.app, .tup [.int L.off, .tup (rs T o (l + 1 - o)), snR L.sn]], ?_, rfl, fun d => callAt rfl (runR rfl (xR (eTup (eCons (eAt rfl gC) (eCons (eAt rfl gA) (eCons (eM (eAt rfl gU) (mU rfl) rfl (c29 G)) rfl))))))⟩
  show (true && (true && ((true && (((rs T o (l + 1 - o)).all (plain 5)) && (plain 6 (snR L.sn) && true))) && true))) = true
  rw [rs_plain]
  cases L.sn <;> rfl
theorem mapR_all {g : MV → MH → RS (Option MV)} {φ : Nat → MV} : ∀ {l : List Nat}, (∀ j ∈ l, g (.int (j : Int)) H = .ok (some (φ j)) H) → mapR g (l.map fun (j : Nat) => MV.int (j : Int)) H = .ok (l.map φ) H
  | [], _ => rfl
  | j :: r, h => by
    show (match g (.int (j : Int)) H with | .ok (some w) H₁ => (mapR g _ H₁).bind fun ws H₂ => .ok (w :: ws) H₂ | .ok Option.none H₁ => mapR g _ H₁ | _ => .bad) = _
    rw [h j (.head _)]
    show (mapR g (r.map _) H).bind _ = _
    rw [mapR_all fun k hk => h k (.tail _ hk)]; rfl
theorem mapR_some {g : MV → MH → RS (Option MV)} {φ : Nat → MV} {ψ : Nat → Bool} : ∀ {l : List Nat}, (∀ j ∈ l, g (.int (j : Int)) H = .ok (if ψ j then some (φ j) else none) H) → mapR g (l.map fun (j : Nat) => MV.int (j : Int)) H = .ok ((l.filter ψ).map φ) H
  | [], _ => rfl
  | j :: r, h => by
    have ih := mapR_some (g := g) fun k hk => h k (.tail _ hk)
    show (match g (.int (j : Int)) H with | .ok (some w) H₁ => (mapR g _ H₁).bind fun ws H₂ => .ok (w :: ws) H₂ | .ok Option.none H₁ => mapR g _ H₁ | _ => .bad) = _
    rw [h j (.head _), List.filter_cons]
    cases ψ j with
    | true =>
      show (mapR g (r.map _) H).bind _ = _
      rw [ih]; rfl
    | false => exact ih
theorem mapR_es {g : MV → MH → RS (Option MV)} : ∀ {n a : Nat}, (∀ j, a ≤ j → j < a + n → g (en (T j) j) H = .ok (some (er (T j) j)) H) → mapR g (es T a n) H = .ok (rs T a n) H
  | 0, _, _ => rfl
  | n + 1, a, h => by
    rw [es_succ, rs_succ]
    show (match g (en (T a) a) H with | .ok (some w) H₁ => (mapR g _ H₁).bind fun ws H₂ => .ok (w :: ws) H₂ | .ok Option.none H₁ => mapR g _ H₁ | _ => .bad) = _
    rw [h a (Nat.le_refl _) (by lia)]
    show (mapR g (es T (a + 1) n) H).bind _ = _
    rw [mapR_es fun k h1 h2 => h k (by lia) (by lia)]; rfl
section
variable {P : Prg} {cf : Nat → List MV → MH → RS MV} {l : Loc} {e : ME} {it : MI} {tt : MT} {xi : Nat} {vs ws : List MV} {H H₁ H₂ : MH}
theorem eComp (h : evalI P cf it l H = .ok vs H₁) (hl : vs.length ≤ 1000) (k : mapR (fun v H => (evalE P cf e (l.set xi (.val v)) H).bind fun w H => .ok (some w) H) vs H₁ = .ok ws H₂) : evalE P cf (.comp e xi it) l H = .ok (.list ws) H₂ :=
  bnd h (by rw [if_neg (Nat.not_lt.mpr hl)]; exact bnd k rfl)
theorem eCompIf (h : evalI P cf it l H = .ok vs H₁) (hl : vs.length ≤ 1000) (k : mapR (fun v H => (evalT P cf tt (l.set xi (.val v)) H).bind fun t H => if t then (evalE P cf e (l.set xi (.val v)) H).bind fun w H => .ok (some w) H else .ok Option.none H) vs H₁ = .ok ws H₂) : evalE P cf (.compIf e xi it tt) l H = .ok (.list ws) H₂ :=
  bnd h (by rw [if_neg (Nat.not_lt.mpr hl)]; exact bnd k rfl)
theorem eNewR {c : Nat} {es : MEs} {kk : MCls} {y : RS MV} (h : evalEs P cf es l H = .ok vs H₁) (hc : P.cls[c]? = some kk) (hr : kk.record = true) (k : cf kk.init vs H₁ = y) : evalE P cf (.new c es) l H = y :=
  bnd h (op hc (by rw [if_pos hr]; exact k))
end
theorem range'_map {g : Nat → MV} {a n : Nat} : (List.range' a n).map g = (List.range n).map fun k => g (a + k) := by rw [List.range'_eq_map_range, List.map_map]; rfl
noncomputable def tl (ts : List Nat) : MV := .list (ts.map fun (t : Nat) => MV.int (t : Int))
noncomputable def tf (ts : List Nat) (i : Nat) : Nat := ts.getD i 0
theorem tl_get {ts : List Nat} {j : Nat} (h : j < ts.length) : idxO (tl ts) (.int (j : Int)) = some (.int (tf ts j)) := idx_list (by rw [List.getElem?_map, tf, List.getD, List.getElem?_eq_getElem h]; rfl)
theorem tl_len {ts : List Nat} : lenO (tl ts) = some (.int ts.length) := by
  show some (MV.int ((ts.map _).length : Nat)) = _
  rw [List.length_map]
theorem byte_ok (h : t < 256) : byteO [.int (t : Int)] = some (.bytes [t]) := by
  show (guardO (decide (0 ≤ (t : Int) ∧ (t : Int) < 256)) (MV.bytes [(t : Int).toNat])) = _
  rw [decide_eq_true ⟨Int.natCast_nonneg t, by lia⟩]; rfl
theorem fm_nat {a b : Nat} : ((a : Int).fmod (b : Int)) = ((a % b : Nat) : Int) := by rw [Int.fmod_eq_emod_of_nonneg _ (Int.natCast_nonneg b), Int.natCast_emod]
theorem mul_dat {t i : Nat} : binop .mul (.bytes [t]) (.int ((i : Int).fmod ((3 : Nat) : Int))) = some (.bytes (dat t i)) := by
  rw [fm_nat]
  show (guardO (decide (0 ≤ ((i % 3 : Nat) : Int) ∧ ((i % 3 : Nat) : Int) ≤ 1000 ∧ [t].length = 1)) (MV.bytes (List.replicate ((i % 3 : Nat) : Int).toNat [t]).flatten)).or _ = _
  rw [decide_eq_true ⟨by lia, by lia, rfl⟩]; rfl
theorem eBy {P : Prg} {cf : Nat → List MV → MH → RS MV} {l : Loc} {e : ME} {xs : List MV} {w : MV} {H H₁ : MH} (h : evalE P cf e l H = .ok (.list xs) H₁) (k : byteO xs = some w) : evalE P cf (.bytesOf e) l H = .ok w H₁ := bnd h (op (show (some xs).bind byteO = some w from k) rfl)
theorem c64 {ts : List Nat} (hm : m ≤ 1000) (hn : n ≤ 1000) (hl : ts.length ≤ 1000) (ht : ∀ j, j < ts.length → tf ts j < 256) : callN P (d + 2) 64 [tl ts, .int m, .int n] H = .ok (.list (es (tf ts) m (min n ts.length - m))) H := by
  have hr : es (tf ts) m (min n ts.length - m) = (List.range' m (min n ts.length - m)).map fun j => en (tf ts j) j := (range'_map (g := fun j => en (tf ts j) j)).symm
  rw [hr]
  have hk : min n ts.length ≤ ts.length := Nat.min_le_right ..
  generalize hq : min n ts.length = q at hk
  have e2 : evalE P (callN P (d + 1)) (.min2 (.var 2) (.len (.var 0))) [.val (tl ts), .val (.int m), .val (.int n), .un] H = .ok (.int q) H :=
    (eMin rfl (eLen rfl tl_len)).trans (congrArg (fun x => RS.ok (MV.int x) H) (by lia : (if (ts.length : Int) < (n : Int) then (ts.length : Int) else (n : Int)) = (q : Int)))
  refine callAt rfl (runR rfl (xR (eComp (iR2n rfl e2 rfl rfl ⟨hm, by lia⟩) (by rw [List.length_map, List.length_range']; lia) (mapR_all fun j hj => ?_))))
  have hj : j < ts.length := by have := List.mem_range'_1.mp hj; lia
  have ix : idxO (tl ts) (.int (j : Int)) = some (.int (tf ts j)) := tl_get hj
  exact bnd (eNewR (eCons (eIx rfl rfl ix) (eCons rfl (eCons rfl (eCons (eB (eBy (eLst (eCons (eIx rfl rfl ix) rfl)) (byte_ok (ht j hj))) rfl (mul_dat (i := j))) rfl)))) rfl rfl (callAt rfl rfl)) rfl
theorem c65 {ts : List Nat} (hm : m ≤ 1000) (hn : n ≤ ts.length) (hl : ts.length ≤ 1000) (ht : ∀ j, j < ts.length → tf ts j < 256) : callN P (d + 2) 65 [tl ts, .int m, .int n] H = .ok (.list (rs (tf ts) m (n - m))) H := by
  have hr : rs (tf ts) m (n - m) = (List.range' m (n - m)).map fun j => er (tf ts j) j := (range'_map (g := fun j => er (tf ts j) j)).symm
  rw [hr]
  refine callAt rfl (runR rfl (xR (eComp (iR2n rfl rfl rfl rfl ⟨hm, by lia⟩) (by rw [List.length_map, List.length_range']; lia) (mapR_all fun j hj => ?_))))
  have hj : j < ts.length := by have := List.mem_range'_1.mp hj; lia
  have ix : idxO (tl ts) (.int (j : Int)) = some (.int (tf ts j)) := tl_get hj
  exact bnd (eTup (eCons (eIx rfl rfl ix) (eCons rfl (eCons rfl (eCons (eB (eBy (eLst (eCons (eIx rfl rfl ix) rfl)) (byte_ok (ht j hj))) rfl (mul_dat (i := j))) rfl))))) rfl
end Mini.L
namespace Mini.L
open Mini
variable {p : Sh} {L : Lg} {O : Flds} {H : MH} {i d f l o n m c k t cm a b : Nat} {T M : Nat → Nat} {x : LV} {E : List MV}
noncomputable def bd19 : MSs := match R.f19.fk with | .body (.cons _ (.cons _ (.cons (.forr _ _ b) _))) => b | _ => .nil
theorem loop19 {u : MV} : ∀ (m j0 : Nat) (x : LV), (∀ j, j0 ≤ j → j < j0 + m → Ixd E j (a + j)) →
    ∃ y, forM 3 (execSs P (callN P d) bd19) ((List.range' j0 m).map fun (j : Nat) => MV.int (j : Int)) [.val u, .val (.list E), .val (.int a), x, .un] H = .next [.val u, .val (.list E), .val (.int a), y, .un] H
  | 0, _, x, _ => ⟨x, rfl⟩
  | m + 1, j0, x, h => by
    obtain ⟨v, h1, h2⟩ := h j0 (Nat.le_refl _) (by lia)
    obtain ⟨y, k⟩ := loop19 m (j0 + 1) (.val (.int j0)) fun j hj hm => h j (by lia) (by lia)
    refine ⟨y, ?_⟩
    rw [List.range'_succ, List.map_cons]
    exact fN (x0 (tC (eAt (eIx rfl rfl (idx_list h1)) (h2 H)) rfl rfl) (congrArg not (ez rfl)) rfl) k
theorem eSU {P : Prg} {cf : Nat → List MV → MH → RS MV} {l : Loc} {e a : ME} {xs : List MV} {k : Int} {j : Nat} {H H₁ H₂ : MH} (h : evalE P cf e l H = .ok (.list xs) H₁) (h1 : evalE P cf a l H₁ = .ok (.int k) H₂) (hk : k = j) (hj : j ≤ xs.length) : evalE P cf (.sliceU e a) l H = .ok (.list (xs.take j)) H₂ := (bnd h (bnd h1 (op (c := MV.list (xs.take j)) (by
  subst hk
  show some (MV.list ((xs.take (bound xs.length j)).drop 0)) = _
  rw [bound_nat hj]; rfl) rfl)))
theorem c19e : callN P (d + 1) 19 [.obj (sx p), .list []] H = .ok .none H := callAt rfl (runR rfl (xIr rfl rfl (xR rfl)))
theorem c19 (hm : E.length = m) (h0 : 1 ≤ m) (hb : m ≤ 500) (hi : ∀ j, j < m → Ixd E j (a + j)) (h1 : L.b < a) (h2 : a ≤ L.b + L.st.length + 1) (hs : L.st.length ≤ 500) :
    callN P (d + 2) 19 [.obj (sx p), .list E] (HH p L O) = .ok .none (HH p { L with st := L.st.take (a - (L.b + 1)) ++ E } O) := by
  obtain ⟨v, e1, e2⟩ := hi 0 h0
  have hl : lenO (.list E) = some (.int m) := congrArg (fun k : Nat => some (MV.int k)) hm
  obtain ⟨y, k⟩ := loop19 (d := d + 1) (H := HH p L O) (E := E) (a := a) (u := .obj (sx p)) m 0 .un fun j _ hj => hi j (by lia)
  refine callAt rfl (runN (l₁ := [.val (.obj (sx p)), .val (.list E), .val (.int a), y, .val (.int ((L.b : Int) + 1))]) rfl (x0 (tC (eLen rfl hl) rfl rfl) (decide_eq_false (by lia)) (xA (eAt (eIx rfl rfl (idx_list (k := 0) e1)) (e2 _)) (xFn (iR1n (eLen rfl hl) (by lia)) k (xA (eM rfl (mS rfl) rfl (callAt rfl f15)) ?_)))))
  refine x0 (tC (eB (eB rfl (eLen rfl hl) rfl) rfl rfl) rfl rfl) (dm (by lia)) (x0 (tC rfl (eB (eM rfl (mS rfl) rfl (callAt rfl f16)) rfl rfl) rfl) (dm (by lia)) (x0 rfl (dm (by lia)) (xS (eB (eSU (j := a - (L.b + 1)) (eAt rfl gL) rfl (by lia) (by lia)) rfl (add_list (by rw [List.length_take]; lia))) rfl sL rfl)))
theorem c20 (h : L.b < i) (hi : L.st[i - (L.b + 1)]? = some (en t i)) : callN P (d + 3) 20 [.obj (sx p), .int i] (HH p L O) = .ok .none (HH p { L with b := i, t := t, st := L.st.drop (i - L.b) } O) := by
  have hl := (List.getElem?_eq_some_iff.mp hi).1
  exact callAt rfl (runN rfl (x0 (tC rfl (eAt rfl gB) rfl) (lf h) (x0 (tC rfl (eM rfl (mS rfl) rfl (callAt rfl f16)) rfl) (dm (by lia)) (xA (eM rfl (mS rfl) rfl (f18b h hi)) (xS (eSL (j := i - L.b) (eAt rfl gL) (eB rfl (eAt rfl gB) rfl) (sub_nat (Nat.le_of_lt h)) (by lia)) rfl sL (xS rfl rfl sB (xS rfl rfl sT rfl)))))))
noncomputable def lg0 (s : Lg) (m : Nat) : Lg := { hd := s.hd, cs := s.cs, sp := s.sp, mx := m, b := s.b, t := s.t, st := s.st, sn := none, ue := [], off := s.b + s.st.length + 1, com := s.b, app := s.b }
theorem sub1 {b : Nat} : binop .sub (.int ((b : Int) + 1)) (.int 1) = some (.int b) := congrArg (fun x => some (MV.int x)) (by lia : (b : Int) + 1 - 1 = b)
theorem eNewO {P : Prg} {cf : Nat → List MV → MH → RS MV} {l : Loc} {c : Nat} {es : MEs} {kk : MCls} {vs : List MV} {H H₁ H₂ : MH} (h : evalEs P cf es l H = .ok vs H₁) (hc : P.cls[c]? = some kk) (hr : kk.record = false) (k : cf kk.init (.obj H₁.length :: vs) (H₁ ++ [⟨c, []⟩]) = .ok .none H₂) : evalE P cf (.new c es) l H = .ok (.obj H₁.length) H₂ :=
  bnd h (op hc (by rw [if_neg (fun q => Bool.noConfusion (hr.symm.trans q))]; exact bnd k rfl))
end Mini.L
namespace Mini.L
open Mini
variable {p : Sh} {L : Lg} {O : Flds} {H : MH} {i j d f l o n m k t a b : Nat} {T : Nat → Nat} {w : MV}
theorem gSp (h : L.sp = w) : getAttr P (.obj (sx p)) 13 (HH p L O) = some w := gO' hS rfl rfl (h ▸ rfl)
theorem gCs : getAttr P (.obj (sx p)) 11 (HH p L O) = some L.cs := gO' hS rfl rfl rfl
noncomputable def SnI (v : MV) (i : Nat) : Prop := ∃ t c e, v = .inst 3 [.int i, t, c, e]
theorem c49 (h : SnI L.sp j) (h1 : j < k) (h2 : L.b ≤ k) : callN P (d + 1) 49 [.obj (sx p), snapE k t] (HH p L O) = .ok .none (HH p { L with sp := snapE k t, cs := conf1, b := k, t := t, st := [] } O) := by
  obtain ⟨u, c, e, h⟩ := h
  exact callAt rfl (runN rfl (x0 (tO (tsC (tC (eAt rfl rfl) (eAt (eAt rfl (gSp h)) rfl) rfl) (lf h1) (tsC (tC (eAt rfl rfl) (eAt rfl gB) rfl) (nf h2) tsN))) rfl (xS rfl rfl sSp (xS (eAt rfl rfl) rfl sCs (xS (eAt rfl rfl) rfl sB (xS (eAt rfl rfl) rfl sT (xS (eLst rfl) rfl sL rfl)))))))
theorem c50 (h : SnI L.sp j) (h1 : j < i) (h2 : L.b < i) (hi : L.st[i - (L.b + 1)]? = some (en t i)) :
    ∃ v, callN P (d + 3) 50 [.obj (sx p), .int i, .none, .bytes []] (HH p L O) = .ok v (HH p { L with sp := .inst 3 [.int i, .int t, L.cs, .bytes []] } O) := by
  obtain ⟨u, c, e, h⟩ := h
  have hl := (List.getElem?_eq_some_iff.mp hi).1
  exact ⟨_, callAt rfl (runR rfl (x0 (tC rfl (eAt (eAt rfl (gSp h)) rfl) rfl) (lf h1) (x0 (tC rfl (eM rfl (mS rfl) rfl (callAt rfl f16)) rfl) (dm (by lia)) (xA (eM rfl (mS rfl) rfl (f18b h2 hi)) (x0 (tY rfl rfl) rfl
    (xS (eNewR (eCons rfl (eCons rfl (eCons (eAt rfl gCs) (eCons rfl rfl)))) rfl rfl (callAt rfl rfl)) rfl sSp (xR (eAt rfl (gSp rfl)))))))))⟩
theorem c51a (h : i < L.off) : callN P (d + 2) 51 [.obj (ux p), .int i, .int t] (HH p L O) = .ok .none (HH p L O) :=
  callAt rfl (runR rfl (xIr (tC rfl (eAt rfl gO) rfl) (nz h) (xR rfl)))
theorem c51b (h : L.off + L.ue.length ≤ i) : callN P (d + 2) 51 [.obj (ux p), .int i, .int t] (HH p L O) = .ok .none (HH p L O) :=
  callAt rfl (runR rfl (x0 (tC rfl (eAt rfl gO) rfl) (nf (by lia)) (xA (eM rfl (mU rfl) rfl (callAt rfl (f25d h))) (xIr (tO (tsX (bnd rfl rfl) rfl)) rfl (xR rfl)))))
end Mini.L
namespace Mini.L
open Mini
variable {p : Sh} {L : Lg} {O : Flds} {H : MH} {i j d f l o n m k t u a b : Nat} {T : Nat → Nat} {w : MV}
theorem tZ {a : ME} {l : Loc} {H H₁ : MH} {v : MV} {b : Bool} (h : evalE P cf a l H = .ok v H₁) (hb : (RS.ok (isNoneV v) H₁ : RS Bool) = .ok b H₁) : evalT P cf (.isNone a) l H = .ok b H₁ := (bnd h rfl).trans hb
theorem ne_int {i j : Int} {b : Bool} (h : decide (i = j) = b) : cmpop .ne (.int i) (.int j) = some (!b) := by rw [← h]; rfl
theorem c51c (h : L.off ≤ i) (hi : L.ue[i - L.off]? = some (en u i)) (hu : u ≠ t) : callN P (d + 2) 51 [.obj (ux p), .int i, .int t] (HH p L O) = .ok .none (HH p L O) :=
  callAt rfl (runR rfl (x0 (tC rfl (eAt rfl gO) rfl) (nf h) (xA (eM rfl (mU rfl) rfl (callAt rfl (f25e h hi))) (xIr (tO (tsC (tZ rfl rfl) rfl (tsX (tC rfl rfl (ne_int (ef hu))) rfl))) rfl (xR rfl)))))
theorem c51d (h : L.off ≤ i) (hi : L.ue[i - L.off]? = some (en t i)) : callN P (d + 2) 51 [.obj (ux p), .int i, .int t] (HH p L O) = .ok .none (HH p { L with ue := L.ue.drop (i + 1 - L.off), off := i + 1 } O) := by
  have hl := (List.getElem?_eq_some_iff.mp hi).1
  exact callAt rfl (runN rfl (x0 (tC rfl (eAt rfl gO) rfl) (nf h) (xA (eM rfl (mU rfl) rfl (callAt rfl (f25e h hi))) (x0 (tO (tsC (tZ rfl rfl) rfl (tsC (tC rfl rfl (ne_int (ez rfl))) rfl tsN))) rfl
    (xS (eSL (j := i + 1 - L.off) (eAt rfl gE) (eB (eB rfl rfl rfl) (eAt rfl gO) rfl) (sub_nat (a := i + 1) (by lia)) (by lia)) rfl sE (xS (eB rfl rfl rfl) rfl (sO (k := i + 1)) rfl))))))
theorem c52a (hs : L.sn = some (i, t)) : callN P (d + 1) 52 [.obj (ux p), .int i] (HH p L O) = .ok .none (HH p { L with sn := none } O) :=
  callAt rfl (runN rfl (xI (tA (tsC (tY (eAt rfl (gNs hs)) rfl) rfl (tsC (tC (eAt (eAt rfl (gNs hs)) rfl) rfl rfl) (ez rfl) tsN))) rfl (xS rfl rfl sNo rfl) rfl))
theorem c58a (hs : L.sn = some (i, t)) : callN P (d + 2) 58 [.obj (lx p), .int i] (HH p L O) = .ok .none (HH p { L with sn := none } O) :=
  callAt rfl (runN rfl (xE (eM (eAt rfl gU) (mU rfl) rfl (c52a hs)) rfl))
theorem c57 {L' : Lg} (k : callN P (d + 1) 51 [.obj (ux p), .int i, .int t] (HH p L O) = .ok .none (HH p L' O)) : callN P (d + 2) 57 [.obj (lx p), .int i, .int t] (HH p L O) = .ok .none (HH p L' O) :=
  callAt rfl (runN rfl (xE (eM (eAt rfl gU) (mU rfl) rfl k) rfl))
theorem c53 (G : Gd L T f l o) (h1 : f ≤ i) (h2 : i ≤ l) : callN P (d + 4) 53 [.obj (lx p), .int i] (HH p L O) = .ok (.int (T i)) (HH p L O) :=
  callAt rfl (runR rfl (xTr (xR (eM rfl (mL rfl) rfl (c34 G h1 h2)))))
theorem c53x (G : Gd L T f l o) (h : i < f ∨ l < i) (hi : i < 100000) : callN P (d + 4) 53 [.obj (lx p), .int i] (HH p L O) = .ok (.int (0 : Nat)) (HH p L O) := by
  rcases h with h | h
  · exact callAt rfl (runR rfl (xTc (rX (eM rfl (mL rfl) rfl (c34c G h))) rfl))
  · exact callAt rfl (runR rfl (xTc (rX (eM rfl (mL rfl) rfl (c34u G h hi))) rfl))
theorem c56z : callN P (d + 1) 56 [.obj (lx p), .int (0 : Nat)] (HH p L O) = .ok .none (HH p L O) := callAt rfl (runR rfl (xIr rfl rfl (xR rfl)))
theorem c56 (h0 : i ≠ 0) (h1 : L.app ≤ i) (h2 : i ≤ L.com) : callN P (d + 1) 56 [.obj (lx p), .int i] (HH p L O) = .ok .none (HH p { L with app := i } O) :=
  callAt rfl (runN rfl (x0 (tC rfl rfl rfl) (ef h0) (x0 (tO (tsC (tC rfl (eAt rfl gC) rfl) (nf h2) (tsC (tC rfl (eAt rfl gA) rfl) (nf h1) tsN))) rfl (xS rfl rfl sA rfl))))
end Mini.L
namespace Mini.L
open Mini
variable {p : Sh} {L : Lg} {O : Flds} {H : MH} {i j d f l o n m k t u a b : Nat} {T : Nat → Nat} {w : MV}
theorem gt_int {i j : Nat} {b : Bool} (h : decide ((j : Int) < (i : Int)) = b) : cmpop .gt (.int i) (.int j) = some b := by rw [← h]; rfl
theorem eq_int {i j : Int} {b : Bool} (h : decide (i = j) = b) : cmpop .eq (.int i) (.int j) = some b := by rw [← h]; rfl
theorem ge_int {i j : Nat} {b : Bool} (h : decide ((j : Int) ≤ (i : Int)) = b) : cmpop .ge (.int i) (.int j) = some b := by rw [← h]; rfl
section
variable {P : Prg} {cf : Nat → List MV → MH → RS MV} {ea eb : ME} {lo : Loc} {H H₁ : MH} {y : RS MV}
theorem eOrT (h : evalE P cf ea lo H = .ok (.bool true) H₁) : evalE P cf (.or (.cons ea (.cons eb .nil))) lo H = .ok (.bool true) H₁ := bnd h rfl
theorem eOrF (h : evalE P cf ea lo H = .ok (.bool false) H₁) (k : evalE P cf eb lo H₁ = y) : evalE P cf (.or (.cons ea (.cons eb .nil))) lo H = y := bnd h k
theorem eAndT (h : evalE P cf ea lo H = .ok (.bool true) H₁) (k : evalE P cf eb lo H₁ = y) : evalE P cf (.and (.cons ea (.cons eb .nil))) lo H = y := bnd h k
theorem eAndF (h : evalE P cf ea lo H = .ok (.bool false) H₁) : evalE P cf (.and (.cons ea (.cons eb .nil))) lo H = .ok (.bool false) H₁ := bnd h rfl
end
theorem c54 (G : Gd L T f l o) (h : f ≤ l) : callN P (d + 5) 54 [.obj (lx p), .int i, .int t] (HH p L O) = .ok (.bool (decide (T l < t) || (decide (t = T l) && decide (l ≤ i)))) (HH p L O) := by
  refine callAt rfl (runR rfl (xA (eM rfl (mL rfl) rfl (c33 G h)) (xR ?_)))
  have e1 : ∀ {b : Bool}, decide ((T l : Int) < (t : Int)) = b → evalE P (callN P (d + 4)) (.cmp (.var 2) (.one .gt (.var 3))) [.val (.obj (lx p)), .val (.int i), .val (.int t), .val (.int (T l))] (HH p L O) = .ok (.bool b) (HH p L O) := fun h => eC rfl rfl (gt_int h)
  have e2 : ∀ {b : Bool}, decide ((t : Int) = (T l : Int)) = b → evalE P (callN P (d + 4)) (.cmp (.var 2) (.one .eq (.var 3))) [.val (.obj (lx p)), .val (.int i), .val (.int t), .val (.int (T l))] (HH p L O) = .ok (.bool b) (HH p L O) := fun h => eC rfl rfl (eq_int h)
  have e3 : ∀ {b : Bool}, decide ((l : Int) ≤ (i : Int)) = b → evalE P (callN P (d + 4)) (.cmp (.var 1) (.one .ge (.meth (.var 0) 32 .nil))) [.val (.obj (lx p)), .val (.int i), .val (.int t), .val (.int (T l))] (HH p L O) = .ok (.bool b) (HH p L O) := fun h => eC rfl (eM rfl (mL rfl) rfl (c32 G)) (ge_int h)
  by_cases h1 : T l < t
  · rw [decide_eq_true h1]
    exact eOrT (e1 (nz h1))
  · rw [decide_eq_false h1]
    refine eOrF (e1 (nf (Nat.le_of_not_lt h1))) ?_
    by_cases h2 : t = T l
    · rw [decide_eq_true h2]
      exact eAndT (e2 (ez h2)) (e3 (decide_eq_decide.mpr (Int.ofNat_le (m := l) (n := i))))
    · rw [decide_eq_false h2]
      exact eAndF (e2 (ef h2))
theorem c55f (G : Gd L T f l o) (hi : i < 100000) (h : i ≤ L.com ∨ t = 0 ∨ l < i ∨ (f ≤ i ∧ T i ≠ t)) : callN P (d + 5) 55 [.obj (lx p), .int i, .int t] (HH p L O) = .ok (.bool false) (HH p L O) := by
  refine callAt rfl (runR rfl (xIr (c := true) ?_ rfl (xR rfl)))
  by_cases h1 : i ≤ L.com
  · exact tO (tsX (tC rfl (eAt rfl gC) rfl) (lz h1))
  · refine tO (tsC (tC rfl (eAt rfl gC) rfl) (lf (Nat.lt_of_not_le h1)) ?_)
    by_cases h2 : t = 0
    · exact tsX (tC rfl rfl (eq_int (ez h2))) rfl
    · refine tsC (tC rfl rfl (eq_int (ef h2))) rfl ?_
      have hv : ∃ v : Nat, v ≠ t ∧ callN P (d + 4) 53 [.obj (lx p), .int i] (HH p L O) = .ok (.int v) (HH p L O) := by
        rcases h with h | h | h | ⟨h, h'⟩
        · exact absurd h h1
        · exact absurd h h2
        · exact ⟨0, fun q => h2 q.symm, c53x G (.inr h) hi⟩
        · rcases Nat.lt_or_ge l i with q | q
          · exact ⟨0, fun q => h2 q.symm, c53x G (.inr q) hi⟩
          · exact ⟨T i, h', c53 G h q⟩
      obtain ⟨v, hv, k⟩ := hv
      exact tsX (tC (eM rfl (mL rfl) rfl k) rfl (ne_int (ef hv))) rfl
theorem c55t (G : Gd L T f l o) (h1 : L.com < i) (h2 : i ≤ l) (h3 : f ≤ i) (h4 : T i = t) (h5 : t ≠ 0) : callN P (d + 5) 55 [.obj (lx p), .int i, .int t] (HH p L O) = .ok (.bool true) (HH p { L with com := max L.com i } O) :=
  callAt rfl (runR rfl (x0 (tO (tsC (tC rfl (eAt rfl gC) rfl) (lf h1) (tsC (tC rfl rfl (eq_int (ef h5))) rfl (tsC (tC (eM rfl (mL rfl) rfl (c53 G h3 h2)) rfl (ne_int (ez h4))) rfl tsN)))) rfl (xE (eM rfl (mL rfl) rfl (c41 G h2)) (xR rfl))))
theorem c56x (h0 : i ≠ 0) (h : L.com < i ∨ i < L.app) (hi : i < 100000) (ha : L.app < 100000) (hc : L.com < 100000) : callN P (d + 1) 56 [.obj (lx p), .int i] (HH p L O) = .ex 9 (HH p L O) := by
  refine callAt rfl (runX rfl (x0 (tC rfl rfl rfl) (ef h0) (xIx (c := true) ?_ rfl (xX (eCons rfl (eCons (eAt rfl gA) (eCons (eAt rfl gC) rfl))) (aI (by lia) (aI (by lia) (aI (by lia) rfl)))))))
  by_cases h1 : L.com < i
  · exact tO (tsX (tC rfl (eAt rfl gC) rfl) (nz h1))
  · exact tO (tsC (tC rfl (eAt rfl gC) rfl) (nf (Nat.le_of_not_lt h1)) (tsX (tC rfl (eAt rfl gA) rfl) (nz (h.resolve_left h1))))
theorem c59 (G : Gd L T f l o) : callN P (d + 3) 59 [.obj (lx p)] (HH p L O) = .ok (.int ((max L.app f : Nat) + 1 : Nat)) (HH p L O) :=
  callAt rfl (runR rfl (xR (eMaxV (eB (eAt rfl gA) rfl rfl) (eM rfl (mL rfl) rfl (c31 G)) (by lia))))
end Mini.L
namespace Mini.L
open Mini
variable {p : Sh} {L : Lg} {O : Flds} {H : MH} {i d f l o t n lo hi lim : Nat} {T : Nat → Nat} {x : LV}
theorem c46a {hi : Int} (h : hi < (lo : Int)) (h1 : lo < 100000) (h2 : -1 ≤ hi) : callN P (d + 1) 46 [.obj (lx p), .int lo, .int hi, .int lim] (HH p L O) = .ex 9 (HH p L O) :=
  callAt rfl (runX rfl (xIx (tC rfl rfl rfl) (dn h) (xX (eCons rfl (eCons rfl rfl)) (aI (by lia) (aI (by lia) rfl)))))
theorem c46b (G : Gd L T f l o) (h : lo ≤ hi) (h1 : lo ≤ f) : callN P (d + 5) 46 [.obj (lx p), .int lo, .int hi, .int lim] (HH p L O) = .ex 4 (HH p L O) := by
  have hb := G.bd
  have hl := G.lo
  have hh := G.hi
  exact callAt rfl (runX rfl (x0 (tC rfl rfl rfl) (nf h) (xIx (tC rfl (eM rfl (mL rfl) rfl (c31 G)) rfl) (dn (by lia)) (xX (eCons rfl (eCons (eM rfl (mL rfl) rfl (c31 G)) rfl)) (aI (by lia) (aI (by lia) rfl))))))
theorem c46c (G : Gd L T f l o) (h : lo ≤ hi) (h1 : f < lo) (h2 : l + 1 < hi) (h3 : hi < 100000) : callN P (d + 5) 46 [.obj (lx p), .int lo, .int hi, .int lim] (HH p L O) = .ex 9 (HH p L O) := by
  have hb := G.bd
  exact callAt rfl (runX rfl (x0 (tC rfl rfl rfl) (nf h) (x0 (tC rfl (eM rfl (mL rfl) rfl (c31 G)) rfl) (dm (by lia)) (xIx (tC rfl (eB (eM rfl (mL rfl) rfl (c32 G)) rfl rfl) rfl) (dn (by lia)) (xX (eCons rfl (eCons (eM rfl (mL rfl) rfl (c32 G)) rfl)) (aI (by lia) (aI (by lia) rfl)))))))
theorem c46e (G : Gd L T f l o) (h1 : f < lo) (h2 : lo ≤ l + 1) : callN P (d + 5) 46 [.obj (lx p), .int lo, .int lo, .int lim] (HH p L O) = .ok (.list []) (HH p L O) :=
  callAt rfl (runR rfl (x0 (tC rfl rfl rfl) (nf (Nat.le_refl _)) (x0 (tC rfl (eM rfl (mL rfl) rfl (c31 G)) rfl) (dm (by lia)) (x0 (tC rfl (eB (eM rfl (mL rfl) rfl (c32 G)) rfl rfl) rfl) (dm (by lia)) (xIr rfl (ez rfl) (xR rfl))))))
theorem c28a {hi : Int} (h : hi < (lo : Int)) (h1 : lo < 100000) (h2 : -1 ≤ hi) : callN P (d + 1) 28 [.obj (ux p), .int lo, .int hi] (HH p L O) = .ex 9 (HH p L O) :=
  callAt rfl (runX rfl (xIx (tC rfl rfl rfl) (dn h) (xX (eCons rfl (eCons rfl rfl)) (aI (by lia) (aI (by lia) rfl)))))
theorem c28b (h : lo ≤ hi) (h1 : hi < 100000) (h2 : L.off + L.ue.length < 100000) (h3 : lo < L.off ∨ L.off + L.ue.length < hi) : callN P (d + 1) 28 [.obj (ux p), .int lo, .int hi] (HH p L O) = .ex 9 (HH p L O) := by
  refine callAt rfl (runX rfl (x0 (tC rfl rfl rfl) (nf h) (xIx (c := true) ?_ rfl (xX (eCons rfl (eCons rfl (eCons (eAt rfl gO) (eCons (eB (eAt rfl gO) (eLen (eAt rfl gE) rfl) rfl) rfl)))) (aI (by lia) (aI (by lia) (aI (by lia) (aI (by lia) rfl))))))))
  by_cases q : lo < L.off
  · exact tO (tsX (tC rfl (eAt rfl gO) rfl) (nz q))
  · exact tO (tsC (tC rfl (eAt rfl gO) rfl) (nf (Nat.le_of_not_lt q)) (tsX (tC rfl (eB (eAt rfl gO) (eLen (eAt rfl gE) rfl) rfl) rfl) (nz (h3.resolve_left q))))
end Mini.L
namespace Mini.L
open Mini
variable {p : Sh} {L : Lg} {O : Flds} {H : MH} {i d f l o t n lo hi lim : Nat} {T : Nat → Nat} {x : LV}
theorem tT {P : Prg} {cf : Nat → List MV → MH → RS MV} {e : ME} {lo : Loc} {H H₁ : MH} {b : Bool} (h : evalE P cf e lo H = .ok (.bool b) H₁) : evalT P cf (.e e) lo H = .ok b H₁ := bnd h rfl
theorem c43n (h : L.sn = none) : callN P (d + 2) 43 [.obj (lx p)] (HH p L O) = .ok (.bool false) (HH p L O) := c43.trans (by rw [h])
theorem c43s {q : Nat × Nat} (h : L.sn = some q) (h0 : q.1 ≠ 0) : callN P (d + 2) 43 [.obj (lx p)] (HH p L O) = .ok (.bool true) (HH p L O) := c43.trans (by
  rw [h]
  show RS.ok (MV.bool (!decide ((q.1 : Int) = 0))) _ = _
  rw [decide_eq_false (by lia)]; rfl)
theorem c60s {q : Nat × Nat} (h : L.sn = some q) (h0 : q.1 ≠ 0) : callN P (d + 3) 60 [.obj (lx p)] (HH p L O) = .ok (.bool false) (HH p L O) :=
  callAt rfl (runR rfl (xIr (tT (eM rfl (mL rfl) rfl (c43s h h0))) rfl (xR rfl)))
theorem c60n (G : Gd L T f l o) (h : L.sn = none) : callN P (d + 4) 60 [.obj (lx p)] (HH p L O) = .ok (.bool (decide (max L.app f < L.com))) (HH p L O) :=
  callAt rfl (runR rfl (x0 (tT (eM rfl (mL rfl) rfl (c43n h))) rfl (xR (eC (eB (eAt rfl gC) rfl rfl) (eM rfl (mL rfl) rfl (c59 G)) (gt_int (i := L.com + 1) (decide_eq_decide.mpr (by lia)))))))
theorem c61s {q : Nat × Nat} (h : L.sn = some q) (h0 : q.1 ≠ 0) : callN P (d + 4) 61 [.obj (lx p)] (HH p L O) = .ok (.list []) (HH p L O) :=
  callAt rfl (runR rfl (xIr (tN (tT (eM rfl (mL rfl) rfl (c60s h h0)))) rfl (xR rfl)))
theorem c61e (G : Gd L T f l o) (h : L.sn = none) (hc : L.com ≤ max L.app f) : callN P (d + 5) 61 [.obj (lx p)] (HH p L O) = .ok (.list []) (HH p L O) :=
  callAt rfl (runR rfl (xIr (tN (tT (eM rfl (mL rfl) rfl ((c60n G h).trans (by rw [decide_eq_false (Nat.not_lt.mpr hc)]))))) rfl (xR rfl)))
theorem c61 (G : Gd L T f l o) (h : L.sn = none) (hc : max L.app f < L.com) (hl : L.com ≤ l) : callN P (d + 6) 61 [.obj (lx p)] (HH p L O) = .ok (.list (es T (max L.app f + 1) (grow L.mx (L.com - max L.app f) (max L.app f + 1) 0 true))) (HH p L O) := by
  have k := c46g (d := d) (p := p) (O := O) (lim := L.mx) (lo := max L.app f + 1) (hi := L.com + 1) G (by lia) (by lia) (by lia)
  rw [show L.com + 1 - (max L.app f + 1) = L.com - max L.app f by lia] at k
  exact callAt rfl (runR rfl (x0 (tN (tT (eM rfl (mL rfl) rfl ((c60n G h).trans (by rw [decide_eq_true hc]))))) rfl (xR (eM rfl (mL rfl) (eCons (eM rfl (mL rfl) rfl (c59 G)) (eCons (eB (eAt rfl gC) rfl rfl) (eCons (eAt rfl gX) rfl))) k))))
theorem c62 {q : Nat × Nat} (h : L.sn = some q) : callN P (d + 1) 62 [.obj (lx p)] (HH p L O) = .ok (snapE q.1 q.2) (HH p L O) :=
  callAt rfl (runR rfl (xIr (tY (eAt (eAt rfl gU) (gNs h)) rfl) rfl (xR (eAt (eAt rfl gU) (gNs h)))))
end Mini.L
namespace Mini.L
open Mini
variable {p : Sh} {L : Lg} {O : Flds} {H : MH} {i a d n lim : Nat} {T : Nat → Nat}
theorem c66 (hn : n ≤ 1000) : callN P (d + 2) 66 [.list (es T a n)] H = .ok (.list (rs T a n)) H :=
  callAt rfl (runR rfl (xR (eComp (iO rfl) (by rw [es_len]; exact hn) (mapR_es fun j _ _ => bnd (eM rfl rfl rfl (callAt rfl rfl)) rfl))))
end Mini.L
namespace Mini.L
open Mini
variable {cf : Nat → List MV → MH → RS MV} {H : MH} {a d lim lo : Nat} {u : MV}
noncomputable def bd67 : MSs := match P01.f67.fk with | .body (.cons _ (.cons _ (.cons (.whil _ _ b) _))) => b | _ => .nil
noncomputable def ts67 : MT := match P01.f67.fk with | .body (.cons _ (.cons _ (.cons (.whil _ t _) _))) => t | _ => .and .nil
theorem loop67 {hi : Nat} : ∀ (m e N tot : Nat) (room : Int), room = (lim : Int) - (tot : Int) → lo ≤ e → e + m = hi → m < N → (e = lo → tot = 0) →
    ∃ room', whileM (evalT P cf ts67) (execSs P cf bd67) N [.val u, .val (.int lo), .val (.int hi), .val (.int lim), .val (.int room), .val (.int e)] H =
      .next [.val u, .val (.int lo), .val (.int hi), .val (.int lim), .val (.int room'), .val (.int ((e + grow lim m e tot (decide (e = lo)) : Nat) : Int))] H
  | 0, e, N + 1, tot, room, hr, hl, he, hN, ht => ⟨room, w0 (tA (tsX (tC rfl rfl rfl) (nf (by lia)))) rfl⟩
  | m + 1, e, N + 1, tot, room, hr, hl, he, hN, ht => by
    have fmE : ((e : Int).fmod ((3 : Nat) : Int)) = ((e % 3 : Nat) : Int) := fm_nat
    have go : ∀ {b : Bool}, (b = true) → evalT P cf ts67 [.val u, .val (.int lo), .val (.int hi), .val (.int lim), .val (.int room), .val (.int e)] H = .ok b H →
        grow lim (m + 1) e tot (decide (e = lo)) = 1 + grow lim m (e + 1) (tot + sz e) false → ∃ room', whileM (evalT P cf ts67) (execSs P cf bd67) (N + 1) [.val u, .val (.int lo), .val (.int hi), .val (.int lim), .val (.int room), .val (.int e)] H =
      .next [.val u, .val (.int lo), .val (.int hi), .val (.int lim), .val (.int room'), .val (.int ((e + grow lim (m + 1) e tot (decide (e = lo)) : Nat) : Int))] H := fun hb k g => by
      obtain ⟨r', q⟩ := loop67 (hi := hi) m (e + 1) N (tot + sz e) (room - (4 + (e % 3 : Nat) : Int)) (by rw [hr]; unfold sz; push_cast; lia) (Nat.le_succ_of_le hl) (by rw [← he]; lia) (Nat.lt_of_succ_lt_succ hN) (fun h => absurd (h ▸ hl : e + 1 ≤ e) (Nat.not_succ_le_self e))
      rw [decide_eq_false (by lia : ¬ e + 1 = lo)] at q
      refine ⟨r', wT k hb (xG (w := .int room) (u := .int (room - (4 + (e % 3 : Nat) : Int))) rfl (eB rfl (eB rfl rfl rfl) rfl) (by rw [← fmE]; rfl) (xG (w := .int e) (u := .int ((e + 1 : Nat) : Int)) rfl rfl rfl rfl)) ?_⟩
      rw [g, show e + (1 + grow lim m (e + 1) (tot + sz e) false) = e + 1 + grow lim m (e + 1) (tot + sz e) false by lia]
      exact q
    have lt : evalT P cf (.cmp (.var 5) (.one .lt (.var 2))) [.val u, .val (.int lo), .val (.int hi), .val (.int lim), .val (.int room), .val (.int e)] H = .ok true H := (tC rfl rfl rfl).trans (congrArg (fun b => RS.ok b H) (nz (by lia)))
    have ge : evalT P cf (.cmp (.var 4) (.one .ge (.bin .add (.int 4) (.bin .mod (.var 5) (.int 3))))) [.val u, .val (.int lo), .val (.int hi), .val (.int lim), .val (.int room), .val (.int e)] H = .ok (decide ((4 : Int) + ((e : Int).fmod ((3 : Nat) : Int)) ≤ room)) H := tC rfl (eB rfl (eB rfl rfl rfl) rfl) rfl
    by_cases h1 : e = lo
    · refine go rfl (tA (tsC lt rfl (tsC (tO (tsX (tC rfl rfl (eq_int (ez h1))) rfl)) rfl tsN))) ?_
      rw [decide_eq_true h1]
      exact if_neg fun h => Bool.noConfusion h.1
    · by_cases h2 : lim < tot + sz e
      · refine ⟨room, ?_⟩
        rw [show grow lim (m + 1) e tot (decide (e = lo)) = 0 by rw [decide_eq_false h1]; exact if_pos ⟨rfl, h2⟩]
        refine w0 (tA (tsC lt rfl (tsX (tO (tsC (tC rfl rfl (eq_int (ef h1))) rfl (tsC ge (decide_eq_false (by rw [fmE]; unfold sz at h2; lia)) tsN))) rfl))) rfl
      · refine go rfl (tA (tsC lt rfl (tsC (tO (tsC (tC rfl rfl (eq_int (ef h1))) rfl (tsX ge (decide_eq_true (by rw [fmE]; unfold sz at h2; lia))))) rfl tsN))) ?_
        rw [decide_eq_false h1]
        exact if_neg fun h => h2 h.2
end Mini.L
namespace Mini.L
open Mini
variable {H : MH} {a d lim lo hi : Nat}
theorem c67 {ts : List Nat} (h1 : lo ≤ hi) (h2 : hi ≤ ts.length) (hl : ts.length ≤ 90) (ht : ∀ j, j < ts.length → tf ts j < 256) : callN P (d + 3) 67 [tl ts, .int lo, .int hi, .int lim] H = .ok (.list (rs (tf ts) lo (grow lim (hi - lo) lo 0 true))) H := by
  obtain ⟨r, k⟩ := loop67 (cf := callN P (d + 2)) (H := H) (lim := lim) (lo := lo) (u := tl ts) (hi := hi) (hi - lo) lo 100 0 lim (by lia) (Nat.le_refl _) (by lia) (by lia) (fun _ => rfl)
  have hg : grow lim (hi - lo) lo 0 true ≤ hi - lo := grow_le
  rw [decide_eq_true (rfl : lo = lo)] at k
  have k65 := c65 (d := d) (H := H) (ts := ts) (m := lo) (n := lo + grow lim (hi - lo) lo 0 true) (by lia) (by lia) (by lia) ht
  rw [Nat.add_sub_cancel_left] at k65
  exact callAt rfl (runR rfl (xA rfl (xA rfl (xWn k (xR (eCl rfl k65))))))
end Mini.L
namespace Mini.L
open Mini
variable {H : MH} {a d lim : Nat}
noncomputable def draw (ns : List Int) (a lim : Nat) : Nat := ((ns.getD a 0).emod lim).toNat
theorem draw_lt {ns : List Int} (h : 0 < lim) : draw ns a lim < lim := by
  unfold draw
  have h1 := Int.emod_nonneg (ns.getD a 0) (b := (lim : Int)) (by lia)
  have h2 := Int.emod_lt_of_pos (ns.getD a 0) (b := (lim : Int)) (by lia)
  show ((ns.getD a 0) % (lim : Int)).toNat < lim
  lia
theorem c63 {ns : List Int} (h : 0 < lim) : callN P (d + 1) 63 [.list (ns.map .int), .int a, .int lim] H = .ok (.int (draw ns a lim)) H := by
  by_cases ha : a < ns.length
  · have hx : (ns.map MV.int)[a]? = some (.int (ns.getD a 0)) := by rw [List.getElem?_map, List.getD, List.getElem?_eq_getElem ha]; rfl
    have hm : binop .mod (.int (ns.getD a 0)) (.int lim) = some (.int (draw ns a lim)) := by
      have e : (ns.getD a 0).fmod (lim : Int) = (draw ns a lim : Nat) := by
        rw [Int.fmod_eq_emod_of_nonneg _ (Int.natCast_nonneg lim)]
        exact (Int.toNat_of_nonneg (Int.emod_nonneg _ (by lia))).symm
      rw [← e]
      show guardO (decide ((lim : Int) ≠ 0)) (MV.int ((ns.getD a 0).fmod lim)) = _
      rw [decide_eq_true (by lia)]; rfl
    exact callAt rfl (runR rfl (xIr (tC rfl (eLen rfl rfl) rfl) (by rw [List.length_map]; exact nz ha) (xR (eB (eIx rfl rfl (idx_list hx)) rfl hm))))
  · have hd : draw ns a lim = 0 := by
      unfold draw
      rw [List.getD, List.getElem?_eq_none (by lia)]
      show ((0 : Int) % (lim : Int)).toNat = 0
      rw [Int.zero_emod]; rfl
    rw [hd]
    exact callAt rfl (runR rfl (x0 (tC rfl (eLen rfl rfl) rfl) (by rw [List.length_map]; exact nf (by lia)) (xR rfl)))
end Mini.L
namespace Mini.L
open Mini
variable {cf : Nat → List MV → MH → RS MV} {H : MH} {L : Lg} {O : Flds} {a d mx : Nat}
theorem f15g (h : H[0]? = some (stO L)) : runF P cf R.f15 [.obj 0] H = .ok (.int ((L.b : Int) + 1)) H := runR rfl (xR (eB (eAt rfl (gO' h rfl rfl rfl)) rfl rfl))
theorem f16g (h : H[0]? = some (stO L)) : runF P cf R.f16 [.obj 0] H = .ok (.int ((L.b : Int) + L.st.length)) H := runR rfl (xR (eB (eAt rfl (gO' h rfl rfl rfl)) (eLen (eAt rfl (gO' h rfl rfl rfl)) rfl) rfl))
theorem app0 {x : MObj} {r : MH} (h : H[0]? = some x) : (H ++ r)[0]? = some x := by
  rw [List.getElem?_append_left (List.getElem?_eq_some_iff.mp h).1]; exact h
theorem at1 {x : MObj} {r : MH} : (H ++ x :: r)[H.length]? = some x := by rw [List.getElem?_append_right (Nat.le_refl _), Nat.sub_self]; rfl
theorem at2 {x y : MObj} {r : MH} : (H ++ x :: y :: r)[H.length + 1]? = some y := by rw [List.getElem?_append_right (Nat.le_succ _), Nat.succ_sub (Nat.le_refl _), Nat.sub_self]; rfl
theorem st1 {x z : MObj} {r : MH} : (H ++ x :: r).set H.length z = H ++ z :: r := by rw [List.set_append_right _ _ (Nat.le_refl _), Nat.sub_self]; rfl
theorem st2 {x y z : MObj} {r : MH} : (H ++ x :: y :: r).set (H.length + 1) z = H ++ x :: z :: r := by rw [List.set_append_right _ _ (Nat.le_succ _), Nat.succ_sub (Nat.le_refl _), Nat.sub_self]; rfl
theorem so1 {f : Nat} {ob : MObj} {w : MV} {r : MH} (hc : (setOk P ob.c f && decide (ob.fs.length < 100)) = true) : setO P (.obj H.length) f w (H ++ ob :: r) = some (H ++ ⟨ob.c, fput f w ob.fs⟩ :: r) := (seO at1 hc).trans (congrArg some st1)
theorem so2 {f : Nat} {x ob : MObj} {w : MV} {r : MH} (hc : (setOk P ob.c f && decide (ob.fs.length < 100)) = true) : setO P (.obj (H.length + 1)) f w (H ++ x :: ob :: r) = some (H ++ x :: ⟨ob.c, fput f w ob.fs⟩ :: r) := (seO at2 hc).trans (congrArg some st2)
theorem c22 {x : MObj} {k : Nat} : callN P (d + 1) 22 [.obj (H.length + 1), .int k] (H ++ [x, ⟨5, []⟩]) = .ok .none (H ++ [x, ⟨5, [(17, .none), (16, .list []), (18, .int k)]⟩]) :=
  callAt rfl (runN rfl (xS rfl rfl (so2 rfl) (xS (eLst rfl) rfl (so2 rfl) (xS rfl rfl (so2 rfl) rfl))))
theorem c30 (h : H[0]? = some (stO L)) : callN P (d + 3) 30 [.obj H.length, .obj 0, .int mx] (H ++ [⟨6, []⟩]) = .ok .none (H ++ [lgO (H.length + 1) (lg0 L mx), unO (lg0 L mx)]) := by
  have e : ∀ {x : MObj}, (H ++ [x]).length = H.length + 1 := by intro x; rw [List.length_append]; rfl
  have hn : ∀ {x : MObj} {k : Nat}, callN P (d + 2) 22 [.obj (H ++ [x]).length, .int k] (H ++ [x] ++ [⟨5, []⟩]) = .ok .none (H ++ [x, ⟨5, [(17, .none), (16, .list []), (18, .int k)]⟩]) := by
    intro x k; rw [e, List.append_assoc]; exact c22
  have mm : ∀ {m f : Nat} {r : MH}, flook m [(31, 15), (32, 16), (33, 17), (34, 18), (17, 48), (36, 19), (37, 49), (38, 50), (39, 20), (24, 21)] = some f → methOf P (.obj 0) m (H ++ r) = some f := fun q => mO (app0 h) rfl q
  refine callAt rfl (runN (l₁ := [.val (.obj H.length), .val (.obj 0), .val (.int mx), .val (.int ((L.b : Int) + 1))]) rfl (xS rfl rfl (so1 rfl) (xS rfl rfl (so1 rfl) (xA (eM rfl (mm rfl) rfl (callAt rfl (f15g (app0 h)))) ?_))))
  refine xS (eNewO (eCons (eB (eM rfl (mm rfl) rfl (callAt rfl (f16g (app0 h)))) rfl rfl) rfl) rfl rfl (hn (k := L.b + L.st.length + 1))) rfl (so1 rfl) ?_
  rw [e]
  exact xS (eB rfl rfl sub1) rfl (so1 rfl) (xS (eB rfl rfl sub1) rfl (so1 rfl) rfl)
end Mini.L
namespace Mini.L
open Mini
variable {cf : Nat → List MV → MH → RS MV} {H : MH} {L L' : Lg} {O : Flds} {a d mx : Nat} {p : Sh}
noncomputable def nxt : Sh → Lg → Sh
  | none, L => some (lgO 2 L, unO L, [])
  | some (x, y, r), L => some (x, y, r ++ [lgO (r.length + 5) L, unO L])
theorem HH_nxt (h : stO L' = stO L) : HH p L O ++ [lgO ((HH p L O).length + 1) L', unO L'] = HH (nxt p L) L' O := by
  match p with
  | none => show [stO L, lgO 2 L, unO L, bkO O, lgO 5 L', unO L'] = [stO L', lgO 2 L, unO L, bkO O, lgO 5 L', unO L']; rw [h]
  | some (x, y, r) =>
    have e : (HH (some (x, y, r)) L O).length = r.length + 6 := by
      show (r ++ [lgO (r.length + 5) L, unO L]).length + 1 + 1 + 1 + 1 = _
      rw [List.length_append]; rfl
    rw [e]
    show stO L :: x :: y :: bkO O :: (r ++ [lgO (r.length + 5) L, unO L] ++ [lgO (r.length + 6 + 1) L', unO L']) = stO L' :: x :: y :: bkO O :: (r ++ [lgO (r.length + 5) L, unO L] ++ [lgO ((r ++ [lgO (r.length + 5) L, unO L]).length + 5) L', unO L'])
    rw [h, List.length_append]; rfl
theorem lx_nxt : lx (nxt p L) = (HH p L O).length := by
  match p with
  | none => rfl
  | some (x, y, r) =>
    show (r ++ [lgO (r.length + 5) L, unO L]).length + 4 = (r ++ [lgO (r.length + 5) L, unO L]).length + 1 + 1 + 1 + 1
    rfl
theorem new6 {loc : Loc} {es : MEs} (he : evalEs P (callN P (d + 3)) es loc (HH p L O) = .ok [.obj 0, .int mx] (HH p L O)) :
    evalE P (callN P (d + 3)) (.new 6 es) loc (HH p L O) = .ok (.obj (lx (nxt p L))) (HH (nxt p L) (lg0 L mx) O) := by
  have k : evalE P (callN P (d + 3)) (.new 6 es) loc (HH p L O) = .ok (.obj (HH p L O).length) (HH p L O ++ [lgO ((HH p L O).length + 1) (lg0 L mx), unO (lg0 L mx)]) := eNewO he rfl rfl (c30 (d := d) (mx := mx) hS)
  rw [HH_nxt (L := L) (L' := lg0 L mx) (show stO (lg0 L mx) = stO L from rfl)] at k
  rw [lx_nxt (O := O)]
  exact k
theorem new6i {loc : Loc} {es : MEs} (he : evalEs P (callN P (d + 3)) es loc [stO L] = .ok [.obj 0, .int mx] [stO L]) :
    evalE P (callN P (d + 3)) (.new 6 es) loc [stO L] = .ok (.obj 1) [stO L, lgO 2 (lg0 L mx), unO (lg0 L mx)] := eNewO he rfl rfl (c30 (d := d) (mx := mx) rfl)
end Mini.L
namespace Mini.L
open Mini
variable {d : Nat}
noncomputable def cfK (k : Nat) : MV := .inst 2 [.list (List.replicate k (.int 1)), .list [], .list [], .list [], .bool false]
noncomputable def stK (k : Nat) : Lg := { hd := .inst 1 [.int k, .int 0, .int k], cs := cfK k, sp := .inst 3 [.int k, .int k, cfK k, .bytes []], mx := 0, b := k, t := k, st := [], sn := none, ue := [], off := 0, com := 0, app := 0 }
theorem c14 {k : Nat} (hk : k ≤ 1) : callN P (d + 2) 14 [.obj 0, cfK k] [⟨4, []⟩] = .ok .none [stO (stK k)] := by
  match k, hk with
  | 0, _ => rfl
  | 1, _ => rfl
end Mini.L
namespace Mini.L
open Mini
variable {a b x y q : List Nat} {i j n m k c e : Nat} {ls : List (List Nat)}
theorem tf_get : tf a i = (a[i]?).getD 0 := List.getD_eq_getElem?_getD ..
theorem tf_take (h : i < n) : tf (a.take n) i = tf a i := by rw [tf_get, tf_get, List.getElem?_take, if_pos h]
theorem tf_app (h : i < a.length) : tf (a ++ b) i = tf a i := by rw [tf_get, tf_get, List.getElem?_append_left h]
theorem tf_app2 (h : a.length ≤ i) : tf (a ++ b) i = tf b (i - a.length) := by rw [tf_get, tf_get, List.getElem?_append_right h]
theorem tf_rep (h : i < n) : tf (List.replicate n k) i = k := by rw [tf_get, List.getElem?_replicate, if_pos h]; rfl
theorem tf_drop : tf (a.drop n) i = tf a (n + i) := by rw [tf_get, tf_get, List.getElem?_drop]
theorem tf_out (h : a.length ≤ i) : tf a i = 0 := by rw [tf_get, List.getElem?_eq_none h]; rfl
theorem tf_ext (h : a.length = b.length) (g : ∀ i, i < a.length → tf a i = tf b i) : a = b := by
  refine List.ext_getElem h fun i h1 h2 => ?_
  have := g i h1
  rw [tf_get, tf_get, List.getElem?_eq_getElem h1, List.getElem?_eq_getElem h2] at this
  exact this
def LM (a b : List Nat) : Prop := ∀ i, i < a.length → i < b.length → tf a i = tf b i → ∀ j, j ≤ i → tf a j = tf b j
theorem LM.symm (h : LM a b) : LM b a := fun i h1 h2 g j hj => (h i h2 h1 g.symm j hj).symm
theorem LM.take (h : LM a b) : LM (a.take n) b := fun i h1 h2 g j hj => by
  have h1 := List.length_take ▸ h1
  have hn : i < n := Nat.lt_of_lt_of_le h1 (Nat.min_le_left ..)
  rw [tf_take hn] at g
  rw [tf_take (Nat.lt_of_le_of_lt hj hn)]
  exact h i (Nat.lt_of_lt_of_le h1 (Nat.min_le_right ..)) h2 g j hj
structure Fam (ls : List (List Nat)) (k c : Nat) : Prop where
  len : ∀ a ∈ ls, 2 ≤ a.length ∧ a.length ≤ c
  one : ∀ a ∈ ls, tf a 0 = 0 ∧ tf a 1 = 1
  tb : ∀ a ∈ ls, ∀ i, tf a i ≤ k
  lm : ∀ a ∈ ls, ∀ b ∈ ls, LM a b
theorem Fam.next (F : Fam ls k c) (hq : q ∈ ls) (h1 : 2 ≤ n) (h2 : n ≤ q.length) (h4 : m ≤ 3) : Fam (ls ++ [q.take n ++ List.replicate m (k + 1)]) (k + 1) (c + 3) := by
  have hl := F.len q hq
  have ht : (q.take n).length = n := by rw [List.length_take, Nat.min_eq_left h2]
  have hlen : (q.take n ++ List.replicate m (k + 1)).length = n + m := by rw [List.length_append, ht, List.length_replicate]
  have lo : ∀ i, i < n → tf (q.take n ++ List.replicate m (k + 1)) i = tf q i := fun i hi => (tf_app (ht.symm ▸ hi)).trans (tf_take hi)
  have hi : ∀ i, n ≤ i → i < n + m → tf (q.take n ++ List.replicate m (k + 1)) i = k + 1 := fun i h1 h2 => (tf_app2 (by rw [ht]; exact h1)).trans (tf_rep (by rw [ht]; exact Nat.sub_lt_left_of_lt_add h1 h2))
  generalize q.take n ++ List.replicate m (k + 1) = z at hlen lo hi
  have key : ∀ b ∈ ls, LM z b := fun b hb i g1 g2 g j hj => by
    by_cases hn : i < n
    · rw [lo i hn] at g
      rw [lo j (Nat.lt_of_le_of_lt hj hn)]
      exact F.lm q hq b hb i (Nat.lt_of_lt_of_le hn h2) g2 g j hj
    · rw [hi i (Nat.le_of_not_lt hn) (hlen ▸ g1)] at g
      exact absurd (F.tb b hb i) (by rw [← g]; exact Nat.not_succ_le_self k)
  have sp : ∀ {a : List Nat} {C : Prop}, a ∈ ls ++ [z] → (a ∈ ls → C) → (a = z → C) → C := fun h f g => (List.mem_append.mp h).elim f fun h => g (List.mem_singleton.mp h)
  refine ⟨fun a h => ?_, fun a h => ?_, fun a h i => ?_, fun a h b h' => ?_⟩
  · exact sp h (fun h => ⟨(F.len a h).1, Nat.le_add_right_of_le (F.len a h).2⟩) fun e => by rw [e, hlen]; exact ⟨Nat.le_add_right_of_le h1, Nat.add_le_add (Nat.le_trans h2 hl.2) h4⟩
  · exact sp h (F.one a) fun e => by rw [e, lo 0 (Nat.lt_of_lt_of_le Nat.zero_lt_two h1), lo 1 h1]; exact F.one q hq
  · refine sp h (fun h => Nat.le_succ_of_le (F.tb a h i)) fun e => ?_
    rw [e]
    by_cases hn : i < n
    · rw [lo i hn]; exact Nat.le_succ_of_le (F.tb q hq i)
    · by_cases hm : i < n + m
      · exact Nat.le_of_eq (hi i (Nat.le_of_not_lt hn) hm)
      · rw [tf_out (by rw [hlen]; exact Nat.le_of_not_lt hm)]; exact Nat.zero_le _
  · exact sp h (fun h => sp h' (F.lm a h b) fun e => e ▸ (key a h).symm) fun e => sp h' (fun h' => e ▸ key b h') fun e' => by rw [e, e']; exact fun i _ _ _ j _ => rfl
def Ok (ls : List (List Nat)) (x : List Nat) : Prop := ∃ a ∈ ls, ∃ n, x = a.take n
theorem Fam.ok (F : Fam ls k c) (hx : Ok ls x) (hy : Ok ls y) : LM x y := by
  obtain ⟨a, ha, n, rfl⟩ := hx
  obtain ⟨b, hb, m, rfl⟩ := hy
  exact (LM.take (LM.take (F.lm a ha b hb)).symm).symm
theorem Fam.okl (F : Fam ls k c) (hx : Ok ls x) : x.length ≤ c := by
  obtain ⟨a, ha, n, rfl⟩ := hx
  rw [List.length_take]; exact Nat.le_trans (Nat.min_le_right ..) (F.len a ha).2
theorem Fam.okt (F : Fam ls k c) (hx : Ok ls x) : tf x i ≤ k := by
  obtain ⟨a, ha, n, rfl⟩ := hx
  by_cases h : i < n
  · rw [tf_take h]; exact F.tb a ha i
  · rw [tf_out (by rw [List.length_take]; exact Nat.le_trans (Nat.min_le_left ..) (Nat.le_of_not_lt h))]; exact Nat.zero_le _
theorem Ok.of (h : a ∈ ls) : Ok ls (a.take n) := ⟨a, h, n, rfl⟩
theorem Ok.take (h : Ok ls x) : Ok ls (x.take n) := by
  obtain ⟨a, ha, m, rfl⟩ := h
  exact ⟨a, ha, _, List.take_take⟩
theorem Ok.self (h : a ∈ ls) : Ok ls a := ⟨a, h, a.length, (List.take_length).symm⟩
theorem Fam.join (F : Fam ls k c) (hx : Ok ls x) (ha : a ∈ ls) (h1 : n < x.length) (h2 : n < e) (h3 : e ≤ a.length) (h : tf x n = tf a n) : x.take (n + 1) ++ (a.take e).drop (n + 1) = a.take e := by
  have hl : (x.take (n + 1)).length = n + 1 := by rw [List.length_take, Nat.min_eq_left h1]
  have hs : (a.take e).length = e := by rw [List.length_take, Nat.min_eq_left h3]
  refine tf_ext (by rw [List.length_append, hl, List.length_drop, hs]; exact Nat.add_sub_cancel' h2) fun i _ => ?_
  by_cases hi : i < n + 1
  · rw [tf_app (hl.symm ▸ hi), tf_take hi, tf_take (Nat.lt_of_lt_of_le hi h2)]
    exact F.ok hx (Ok.self ha) n h1 (Nat.lt_of_lt_of_le h2 h3) h i (Nat.le_of_lt_succ hi)
  · have hi := Nat.le_of_not_lt hi
    rw [tf_app2 (by rw [hl]; exact hi), tf_drop, hl, Nat.add_sub_cancel' hi]
end Mini.L
namespace Mini.L
open Mini
section
variable {P : Prg} {cf : Nat → List MV → MH → RS MV} {l : Loc} {ea eb ec : ME} {H H₁ H₂ H₃ : MH} {i j n : Nat} {a b : List Nat} {v w : MV} {c c' : Bool}
theorem eBA (h : evalE P cf ea l H = .ok (.int i) H₁) (h2 : evalE P cf eb l H₁ = .ok (.int j) H₂) : evalE P cf (.bin .add ea eb) l H = .ok (.int ((i + j : Nat) : Int)) H₂ := eB h h2 rfl
theorem eBAe {k : Nat} (h : evalE P cf ea l H = .ok (.int i) H₁) (h2 : evalE P cf eb l H₁ = .ok (.int j) H₂) (e : i + j = k) : evalE P cf (.bin .add ea eb) l H = .ok (.int k) H₂ := eB h h2 (e ▸ rfl)
theorem eBS (h : evalE P cf ea l H = .ok (.int i) H₁) (h2 : evalE P cf eb l H₁ = .ok (.int j) H₂) (hj : j ≤ i) : evalE P cf (.bin .sub ea eb) l H = .ok (.int ((i - j : Nat) : Int)) H₂ := eB h h2 (congrArg (fun x => some (MV.int x)) (sub_nat hj))
theorem eBM (h : evalE P cf ea l H = .ok (.int i) H₁) (h2 : evalE P cf eb l H₁ = .ok (.int j) H₂) (hj : j ≠ 0) : evalE P cf (.bin .mod ea eb) l H = .ok (.int ((i % j : Nat) : Int)) H₂ := eB h h2 (by
  rw [← fm_nat]
  show guardO (decide ((j : Int) ≠ 0)) (MV.int ((i : Int).fmod j)) = _
  rw [decide_eq_true (show (j : Int) ≠ 0 from fun q => hj (Int.ofNat.inj q))]; rfl)
theorem eBD (h : evalE P cf ea l H = .ok (.int i) H₁) (h2 : evalE P cf eb l H₁ = .ok (.int j) H₂) (hj : j ≠ 0) (hz : j < 1073741824) : evalE P cf (.bin .fdiv ea eb) l H = .ok (.int ((i / j : Nat) : Int)) H₂ := eB h h2 (by
  rw [show ((i / j : Nat) : Int) = (i : Int).fdiv j from (Int.natCast_ediv i j).trans (Int.fdiv_eq_ediv_of_nonneg _ (Int.natCast_nonneg j)).symm]
  show guardO (decide ((j : Int) ≠ 0 ∧ (j : Int).natAbs < 1073741824)) (MV.int ((i : Int).fdiv j)) = _
  rw [decide_eq_true (show (j : Int) ≠ 0 ∧ (j : Int).natAbs < 1073741824 from ⟨fun q => hj (Int.ofNat.inj q), hz⟩)]; rfl)
theorem tl_length : (a.map fun (t : Nat) => MV.int (t : Int)).length = a.length := List.length_map ..
theorem eTlU (h : evalE P cf ea l H = .ok (tl a) H₁) (h2 : evalE P cf eb l H₁ = .ok (.int j) H₂) (hj : j ≤ a.length) : evalE P cf (.sliceU ea eb) l H = .ok (tl (a.take j)) H₂ := (eSU h h2 rfl (tl_length.symm ▸ hj)).trans (by rw [tl, List.map_take])
theorem eTlL (h : evalE P cf ea l H = .ok (tl a) H₁) (h2 : evalE P cf eb l H₁ = .ok (.int j) H₂) (hj : j ≤ a.length) : evalE P cf (.sliceL ea eb) l H = .ok (tl (a.drop j)) H₂ := (eSL h h2 rfl (tl_length.symm ▸ hj)).trans (by rw [tl, List.map_drop])
theorem eTlLU (h : evalE P cf ea l H = .ok (tl a) H₁) (h2 : evalE P cf eb l H₁ = .ok (.int i) H₂) (h3 : evalE P cf ec l H₂ = .ok (.int j) H₃) (hi : i ≤ j) (hj : j ≤ a.length) : evalE P cf (.sliceLU ea eb ec) l H = .ok (tl ((a.take j).drop i)) H₃ :=
  (eSl h h2 h3 (sl rfl rfl hi (tl_length.symm ▸ hj))).trans (by rw [tl, List.map_drop, List.map_take])
theorem eTlA (h : evalE P cf ea l H = .ok (tl a) H₁) (h2 : evalE P cf eb l H₁ = .ok (tl b) H₂) (hz : a.length + b.length ≤ 1000) : evalE P cf (.bin .add ea eb) l H = .ok (tl (a ++ b)) H₂ := (eB h h2 (add_list (by rw [tl_length, tl_length]; exact hz))).trans (by rw [tl, List.map_append])
theorem eTlR (h : evalE P cf ea l H = .ok (tl [i]) H₁) (h2 : evalE P cf eb l H₁ = .ok (.int n) H₂) (hz : n ≤ 1000) : evalE P cf (.bin .mul ea eb) l H = .ok (tl (List.replicate n i)) H₂ := eB h h2 (by
  show (none : Option MV).or ((none : Option MV).or (guardO (decide (0 ≤ (n : Int) ∧ (n : Int) ≤ 1000)) (.list (List.replicate (n : Int).toNat (.int i))))) = _
  rw [decide_eq_true ⟨Int.natCast_nonneg n, Int.ofNat_le.mpr hz⟩, tl, List.map_replicate]; rfl)
theorem eTlI (h : evalE P cf ea l H = .ok (tl a) H₁) (h2 : evalE P cf eb l H₁ = .ok (.int j) H₂) (hj : j < a.length) : evalE P cf (.idx ea eb) l H = .ok (.int (tf a j)) H₂ := eIx h h2 (tl_get hj)
theorem eTlN (h : evalE P cf ea l H = .ok (tl a) H₁) : evalE P cf (.len ea) l H = .ok (.int a.length) H₁ := eLen h tl_len
theorem eEq (h : evalE P cf ea l H = .ok (.int i) H₁) (h2 : evalE P cf eb l H₁ = .ok (.int j) H₂) : evalE P cf (.cmp ea (.one .eq eb)) l H = .ok (.bool (decide (i = j))) H₂ := eC h h2 (eq_int (decide_eq_decide.mpr Int.ofNat_inj))
theorem tEq (h : evalE P cf ea l H = .ok (.int i) H₁) (h2 : evalE P cf eb l H₁ = .ok (.int j) H₂) : evalT P cf (.cmp ea (.one .eq eb)) l H = .ok (decide (i = j)) H₂ := tC h h2 (eq_int (decide_eq_decide.mpr Int.ofNat_inj))
theorem tLt (h : evalE P cf ea l H = .ok (.int i) H₁) (h2 : evalE P cf eb l H₁ = .ok (.int j) H₂) : evalT P cf (.cmp ea (.one .lt eb)) l H = .ok (decide (i < j)) H₂ := tC h h2 (congrArg some (decide_eq_decide.mpr Int.ofNat_lt))
theorem tLe (h : evalE P cf ea l H = .ok (.int i) H₁) (h2 : evalE P cf eb l H₁ = .ok (.int j) H₂) : evalT P cf (.cmp ea (.one .le eb)) l H = .ok (decide (i ≤ j)) H₂ := tC h h2 (congrArg some (decide_eq_decide.mpr Int.ofNat_le))
theorem tGt (h : evalE P cf ea l H = .ok (.int i) H₁) (h2 : evalE P cf eb l H₁ = .ok (.int j) H₂) : evalT P cf (.cmp ea (.one .gt eb)) l H = .ok (decide (j < i)) H₂ := tC h h2 (congrArg some (decide_eq_decide.mpr Int.ofNat_lt))
theorem tEqT (h : evalE P cf ea l H = .ok (.int i) H₁) (h2 : evalE P cf eb l H₁ = .ok (.int j) H₂) (q : i = j) : evalT P cf (.cmp ea (.one .eq eb)) l H = .ok true H₂ := tC h h2 (eq_int (ez q))
theorem tEqF (h : evalE P cf ea l H = .ok (.int i) H₁) (h2 : evalE P cf eb l H₁ = .ok (.int j) H₂) (q : i ≠ j) : evalT P cf (.cmp ea (.one .eq eb)) l H = .ok false H₂ := tC h h2 (eq_int (ef q))
theorem tLtT (h : evalE P cf ea l H = .ok (.int i) H₁) (h2 : evalE P cf eb l H₁ = .ok (.int j) H₂) (q : i < j) : evalT P cf (.cmp ea (.one .lt eb)) l H = .ok true H₂ := tC h h2 (congrArg some (nz q))
theorem tLtF (h : evalE P cf ea l H = .ok (.int i) H₁) (h2 : evalE P cf eb l H₁ = .ok (.int j) H₂) (q : j ≤ i) : evalT P cf (.cmp ea (.one .lt eb)) l H = .ok false H₂ := tC h h2 (congrArg some (nf q))
theorem tGtT (h : evalE P cf ea l H = .ok (.int i) H₁) (h2 : evalE P cf eb l H₁ = .ok (.int j) H₂) (q : j < i) : evalT P cf (.cmp ea (.one .gt eb)) l H = .ok true H₂ := tC h h2 (congrArg some (nz q))
theorem tGtF (h : evalE P cf ea l H = .ok (.int i) H₁) (h2 : evalE P cf eb l H₁ = .ok (.int j) H₂) (q : i ≤ j) : evalT P cf (.cmp ea (.one .gt eb)) l H = .ok false H₂ := tC h h2 (congrArg some (nf q))
theorem tLeT (h : evalE P cf ea l H = .ok (.int i) H₁) (h2 : evalE P cf eb l H₁ = .ok (.int j) H₂) (q : i ≤ j) : evalT P cf (.cmp ea (.one .le eb)) l H = .ok true H₂ := tC h h2 (congrArg some (lz q))
theorem tLeF (h : evalE P cf ea l H = .ok (.int i) H₁) (h2 : evalE P cf eb l H₁ = .ok (.int j) H₂) (q : j < i) : evalT P cf (.cmp ea (.one .le eb)) l H = .ok false H₂ := tC h h2 (congrArg some (lf q))
theorem tNe (h : evalE P cf ea l H = .ok v H₁) (h2 : evalE P cf eb l H₁ = .ok v H₂) (hp : plain 8 v = true) (hi : v.int? = none) : evalT P cf (.cmp ea (.one .ne eb)) l H = .ok false H₂ := tC h h2 (ne_self hp hi)
theorem eq_self {v : MV} (h : plain 8 v = true) (hi : v.int? = none) : cmpop .eq v v = some true := by
  show (intz v v _).or (cmpO .eq v v) = _
  unfold intz
  rw [hi]
  show guardO (plain 8 v && eqv v v) true = _
  rw [h, eqv_self 8 v h]; rfl
theorem eEs (h : evalE P cf ea l H = .ok v H₁) (h2 : evalE P cf eb l H₁ = .ok v H₂) (hp : plain 8 v = true) (hi : v.int? = none) : evalE P cf (.cmp ea (.one .eq eb)) l H = .ok (.bool true) H₂ := eC h h2 (eq_self hp hi)
theorem tNi {k : Int} (h : evalE P cf ea l H = .ok (.int k) H₁) (h2 : evalE P cf eb l H₁ = .ok (.int k) H₂) : evalT P cf (.cmp ea (.one .ne eb)) l H = .ok false H₂ := tC h h2 (ne_int (decide_eq_true rfl))
theorem eEi {k : Int} (h : evalE P cf ea l H = .ok (.int k) H₁) (h2 : evalE P cf eb l H₁ = .ok (.int k) H₂) : evalE P cf (.cmp ea (.one .eq eb)) l H = .ok (.bool true) H₂ := eC h h2 (eq_int (decide_eq_true rfl))
theorem eCh {o o' : Cp} (h : evalE P cf ea l H = .ok v H₁) (h2 : evalE P cf eb l H₁ = .ok w H₂) (h3 : cmpop o v w = some c) {u : MV} (h4 : evalE P cf ec l H₂ = .ok u H₂) (h5 : cmpop o' w u = some c') : evalE P cf (.cmp ea (.cons o eb (.one o' ec))) l H = .ok (.bool (c && c')) H₂ := bnd h (bnd (c := c && c') (bnd h2 (op h3 (by
  cases c with
  | true => exact bnd h4 (op h5 rfl)
  | false => rfl))) rfl)
theorem tCh {o o' : Cp} (h : evalE P cf ea l H = .ok v H₁) (h2 : evalE P cf eb l H₁ = .ok w H₂) (h3 : cmpop o v w = some c) {u : MV} (h4 : evalE P cf ec l H₂ = .ok u H₂) (h5 : cmpop o' w u = some c') : evalT P cf (.cmp ea (.cons o eb (.one o' ec))) l H = .ok (c && c') H₂ := bnd h (bnd h2 (op h3 (by
  cases c with
  | true => exact bnd h4 (op h5 rfl)
  | false => rfl)))
theorem le_int {b : Bool} (h : decide (i ≤ j) = b) : cmpop .le (.int i) (.int j) = some b := by rw [← h]; exact congrArg some (decide_eq_decide.mpr Int.ofNat_le)
theorem lt_int {b : Bool} (h : decide (i < j) = b) : cmpop .lt (.int i) (.int j) = some b := by rw [← h]; exact congrArg some (decide_eq_decide.mpr Int.ofNat_lt)
end
end Mini.L
namespace Mini.L
open Mini
variable {H : MH} {d k c n : Nat} {ns : List Int} {ls : List (List Nat)}
noncomputable def nxtL (ls : List (List Nat)) (n k : Nat) : List Nat :=
  (ls.getD (n % k) []).take (2 + n / 3 % ((ls.getD (n % k) []).length - 1)) ++ List.replicate (1 + (n / 30 + 2) % 3) (k + 1)
noncomputable def bd68 : MSs := match P01.f68.fk with | .body (.cons _ (.cons (.forr _ _ b) _)) => b | _ => .nil
theorem mem_getD (hl : ls.length = k) (hk : 0 < k) : ls[n % k]? = some (ls.getD (n % k) []) ∧ ls.getD (n % k) [] ∈ ls := by
  have h : n % k < ls.length := by rw [hl]; exact Nat.mod_lt n hk
  rw [List.getD_eq_getElem?_getD, List.getElem?_eq_getElem h]
  exact ⟨rfl, List.getElem_mem h⟩
theorem cut_ok {m n : Nat} (h : 2 ≤ n) : 2 + m % (n - 1) ≤ n := by have := Nat.mod_lt m (show 0 < n - 1 by lia); lia
theorem Fam.nxt (F : Fam ls k c) (hl : ls.length = k) (hk : 0 < k) : Fam (ls ++ [nxtL ls n k]) (k + 1) (c + 3) :=
  have hq := (mem_getD (n := n) hl hk).2
  F.next hq (Nat.le_add_right ..) (cut_ok (F.len _ hq).1) (by lia)
theorem turn68 (F : Fam ls k c) (hl : ls.length = k) (hk : 0 < k) (hk2 : k < 10) (hc : c < 100) {x3 x4 x5 : LV} (hn : draw ns (2 + k) 300 = n) : ∃ y3 y4 y5,
    execSs P (callN P (d + 1)) bd68 [.val (.list (ns.map .int)), .acc (ls.map tl), .val (.int k), x3, x4, x5] H = .next [.val (.list (ns.map .int)), .acc ((ls ++ [nxtL ls n k]).map tl), .val (.int k), y3, y4, y5] H := by
  obtain ⟨hg, hq⟩ := mem_getD (n := n) hl hk
  obtain ⟨q, e⟩ : ∃ q, q = ls.getD (n % k) [] := ⟨_, rfl⟩
  have hz : nxtL ls n k = q.take (2 + n / 3 % (q.length - 1)) ++ List.replicate (1 + (n / 30 + 2) % 3) (k + 1) := by rw [e]; rfl
  rw [← e] at hg hq
  have hql := F.len q hq
  have h1 : q.length - 1 ≠ 0 := Nat.sub_ne_zero_of_lt hql.1
  have h3 : (n / 30 + 2) % 3 < 3 := Nat.mod_lt _ (by decide)
  have h2 : 2 + n / 3 % (q.length - 1) ≤ q.length := cut_ok hql.1
  have k4 : evalE P (callN P (d + 1)) (.accIdx 1 (.bin .mod (.var 3) (.var 2))) [.val (.list (ns.map .int)), .acc (ls.map tl), .val (.int k), .val (.int n), x4, x5] H = .ok (tl q) H :=
    op (c := ls.map tl) rfl (bnd (eBM (i := n) (j := k) rfl rfl (Nat.ne_of_gt hk)) (op (c := tl q) (by
      show (if 0 ≤ ((n % k : Nat) : Int) then (ls.map tl)[((n % k : Nat) : Int).toNat]? else none) = _
      rw [if_pos (Int.natCast_nonneg _)]
      show (ls.map tl)[n % k]? = _
      rw [List.getElem?_map, hg]; rfl) rfl))
  refine ⟨.val (.int n), .val (tl q), .val (.int ((2 + n / 3 % (q.length - 1) : Nat) : Int)), ?_⟩
  rw [List.map_append, hz]
  exact xA (eCl (eCons rfl (eCons (eBA rfl rfl) (eCons rfl rfl))) ((c63 (a := 2 + k) (lim := 300) (by decide)).trans (by rw [hn]))) (xA k4 (xA (eBA rfl (eBM (eBD rfl rfl (by decide) (by decide)) (eBS (eTlN rfl) rfl (Nat.le_of_succ_le hql.1)) h1))
    (xP (vs := ls.map tl) rfl (eTlA (eTlU rfl rfl h2) (eTlR (i := k + 1) (eLst (eCons (eBA rfl rfl) rfl)) (eBA rfl (eBM (eBA (eBD rfl rfl (by decide) (by decide)) rfl) rfl (by decide))) (by lia)) (by rw [List.length_take, List.length_replicate]; lia)) (by rw [List.length_map, hl]; exact Nat.lt_trans hk2 (by decide)) rfl)))
noncomputable def lds0 (ns : List Int) : List (List Nat) := [0 :: 1 :: List.replicate (draw ns 2 3) 1]
noncomputable def lds1 (ns : List Int) : List (List Nat) := lds0 ns ++ [nxtL (lds0 ns) (draw ns 3 300) 1]
noncomputable def lds2 (ns : List Int) : List (List Nat) := lds1 ns ++ [nxtL (lds1 ns) (draw ns 4 300) 2]
noncomputable def lds (ns : List Int) : List (List Nat) := lds2 ns ++ [nxtL (lds2 ns) (draw ns 5 300) 3]
theorem fam0 : Fam (lds0 ns) 1 4 := by
  have hd : draw ns 2 3 < 3 := draw_lt (by decide)
  have e : ∀ {a}, a ∈ lds0 ns → a = 0 :: 1 :: List.replicate (draw ns 2 3) 1 := fun h => List.mem_singleton.mp h
  have hlen : (0 :: 1 :: List.replicate (draw ns 2 3) 1).length = draw ns 2 3 + 2 := by rw [List.length_cons, List.length_cons, List.length_replicate]
  refine ⟨fun a h => ?_, fun a h => ?_, fun a h i => ?_, fun a h b h' => ?_⟩
  · rw [e h, hlen]; lia
  · rw [e h]; exact ⟨rfl, rfl⟩
  · rw [e h]
    match i with
    | 0 => exact Nat.zero_le 1
    | 1 => exact Nat.le_refl 1
    | i + 2 =>
      show tf (List.replicate (draw ns 2 3) 1) i ≤ 1
      by_cases hi : i < draw ns 2 3
      · rw [tf_rep hi]; exact Nat.le_refl 1
      · rw [tf_out (by rw [List.length_replicate]; exact Nat.le_of_not_lt hi)]; exact Nat.zero_le 1
  · rw [e h, e h']; exact fun i _ _ _ j _ => rfl
theorem fam : Fam (lds ns) 4 13 := ((fam0.nxt rfl (by decide)).nxt rfl (by decide)).nxt rfl (by decide)
theorem c68 : callN P (d + 2) 68 [.list (ns.map .int)] H = .ok (.list ((lds ns).map tl)) H := by
  have hd : draw ns 2 3 < 3 := draw_lt (by decide)
  have k0 : evalE P (callN P (d + 1)) (.bin .add (.list (.cons (.int 0) (.cons (.int 1) .nil))) (.bin .mul (.list (.cons (.int 1) .nil)) (.call 63 (.cons (.var 0) (.cons (.int 2) (.cons (.int 3) .nil)))))) [.val (.list (ns.map .int)), .un, .un, .un, .un, .un] H = .ok (tl (0 :: 1 :: List.replicate (draw ns 2 3) 1)) H :=
    eTlA (a := [0, 1]) rfl (eTlR (i := 1) rfl (eCl rfl (c63 (a := 2) (lim := 3) (by decide))) (by lia)) (by rw [List.length_replicate]; show 2 + _ ≤ _; lia)
  obtain ⟨_, _, _, t1⟩ := turn68 (d := d) (H := H) (ns := ns) (ls := lds0 ns) fam0 rfl (by decide) (by decide) (by decide) (x3 := .un) (x4 := .un) (x5 := .un) rfl
  obtain ⟨_, _, _, t2⟩ := turn68 (d := d) (H := H) (ns := ns) (ls := lds1 ns) (fam0.nxt rfl (by decide)) rfl (by decide) (by decide) (by decide) rfl
  obtain ⟨_, _, _, t3⟩ := turn68 (d := d) (H := H) (ns := ns) (ls := lds2 ns) ((fam0.nxt rfl (by decide)).nxt rfl (by decide)) rfl (by decide) (by decide) (by decide) rfl
  exact callAt rfl (runR rfl (xN (eCons k0 rfl) (xFn (iR2n (m := 1) (n := 4) rfl rfl rfl rfl (by decide)) (fN t1 (fN t2 (fN t3 rfl))) (xZ rfl (xR rfl)))))
end Mini.L
namespace Mini.L
open Mini
structure Bk where
  now : List Nat
  base : Nat
  com : Nat
  app : Nat
  kept : Nat
  pend : Bool
  disk : List Nat
  db : Nat
  out : Option (Bool × Nat × Nat × Nat × Nat)
  most : Nat
noncomputable def ouV : Option (Bool × Nat × Nat × Nat × Nat) → MV
  | none => .none
  | some (s, b, o, t, c) => .tup [.bool s, .int b, .int o, .int t, .int c]
noncomputable def bkF (B : Bk) : Flds := [(65, tl B.now), (66, .int B.base), (22, .int B.com), (23, .int B.app), (68, .int B.kept), (67, .bool B.pend), (70, tl B.disk), (71, .int B.db), (72, ouV B.out), (69, .int B.most)]
variable {p : Sh} {L : Lg} {B : Bk} {H : MH} {d f k i j n : Nat} {ls : List (List Nat)} {O : Flds}
theorem eK {cf : Nat → List MV → MH → RS MV} {e : ME} {l : Loc} {w : MV} (h : evalE P cf e l (HH p L O) = .ok (.obj 3) (HH p L O)) (h2 : fget f O = some w) : evalE P cf (.key e f) l (HH p L O) = .ok w (HH p L O) := bnd h (op (gK h2) rfl)
theorem xK {cf : Nat → List MV → MH → RS MV} {e b : ME} {l : Loc} {u w : MV} {r : MSs} {x : SR} {H : MH} (h : evalE P cf b l H = .ok w (HH p L O)) (h2 : evalE P cf e l (HH p L O) = .ok (.obj 3) (HH p L O)) (h3 : fget f O = some u) (hz : O.length < 100) (k : execSs P cf r l (HH p L (fput f w O)) = x) : execSs P cf (.cons (.setKey e f b) r) l H = x := thn (tos h (tos h2 (ops (sK h3 hz) rfl))) k
structure IA (L : Lg) (B : Bk) : Prop where
  off : L.off = B.kept + 1
  ue : L.ue = es (tf B.now) (B.kept + 1) (B.now.length - (B.kept + 1))
  com : L.com = B.com
  app : L.app = B.app
  mx : L.mx = B.most
  sn : L.sn = if B.pend then some (B.base, tf B.now B.base) else none
structure IS (L : Lg) (B : Bk) : Prop where
  b : L.b = B.db
  t : L.t = tf B.disk B.db
  st : L.st = es (tf B.disk) (B.db + 1) (B.disk.length - (B.db + 1))
  sp : SnI L.sp B.db
structure IB (ls : List (List Nat)) (B : Bk) : Prop where
  ac : B.app ≤ B.com
  bc : B.base ≤ B.com
  cl : B.com < B.now.length
  bk : B.base ≤ B.kept
  kl : B.kept < B.now.length
  dl : B.db < B.disk.length
  pk : B.pend = true → B.kept = B.base ∧ 1 ≤ B.base
  so : B.pend = false ∨ B.out ≠ none → B.db = B.base ∧ B.kept < B.disk.length ∧ (∀ j, j ≤ B.kept → tf B.disk j = tf B.now j) ∧ (B.kept + 1 = B.now.length → B.disk.length = B.now.length)
  ns : B.pend = true → B.out = none → B.db < B.base
  ot : ∀ {s b lo t c}, B.out = some (s, b, lo, t, c) → s = B.pend ∧ (s = true → b = B.base) ∧ (0 < c → B.disk.length = lo + 1 ∧ tf B.disk lo = t)
  on : Ok ls B.now
  od : Ok ls B.disk
theorem gd (F : Fam ls 4 13) (A : IA L B) (S : IS L B) (N : IB ls B) : Gd L (tf B.now) B.base (B.now.length - 1) (B.kept + 1) := by
  have hl := N.kl
  have hk := N.bk
  have h13 := F.okl N.on
  have e1 : B.now.length - 1 + 1 = B.now.length := Nat.sub_add_cancel (Nat.lt_of_le_of_lt (Nat.zero_le _) hl)
  refine ⟨A.off, Nat.lt_succ_of_le hk, e1.symm ▸ hl, e1.symm ▸ A.ue, by lia, fun i _ => Nat.lt_of_le_of_lt (F.okt N.on) (by decide), ?_⟩
  cases hp : B.pend with
  | true => exact .inr ⟨A.sn.trans (by rw [hp]; rfl), congrArg (· + 1) (N.pk hp).1⟩
  | false =>
    obtain ⟨h1, h2, h3, h4⟩ := N.so (.inl hp)
    refine .inl ⟨A.sn.trans (by rw [hp]; rfl), S.b.trans h1, S.t.trans (by rw [h1]; exact h3 _ hk), es (tf B.disk) (B.kept + 1) (B.disk.length - (B.kept + 1)), ?_, fun e => ?_⟩
    · rw [S.st, h1, show B.disk.length - (B.base + 1) = (B.kept + 1 - 1 - B.base) + (B.disk.length - (B.kept + 1)) by lia, es_add, show B.base + 1 + (B.kept + 1 - 1 - B.base) = B.kept + 1 by lia]
      exact congrArg (· ++ _) (es_congr fun j _ hj => h3 j (by lia))
    · rw [h4 (e.trans e1), show B.now.length - (B.kept + 1) = 0 by lia]; rfl
structure Iv (ls : List (List Nat)) (L : Lg) (B : Bk) : Prop where
  F : Fam ls 4 13
  A : IA L B
  S : IS L B
  N : IB ls B
theorem Iv.gd (I : Iv ls L B) : Gd L (tf B.now) B.base (B.now.length - 1) (B.kept + 1) := Mini.L.gd I.F I.A I.S I.N
theorem Iv.pos (I : Iv ls L B) : 0 < B.now.length := Nat.lt_of_le_of_lt (Nat.zero_le _) I.N.kl
theorem Iv.l13 (I : Iv ls L B) : B.now.length ≤ 13 := I.F.okl I.N.on
theorem Iv.bl (I : Iv ls L B) : B.base ≤ B.now.length - 1 := Nat.le_sub_one_of_lt (Nat.lt_of_le_of_lt I.N.bk I.N.kl)
theorem Iv.last (I : Iv ls L B) : B.now.length - 1 < B.now.length := Nat.sub_lt I.pos Nat.one_pos
end Mini.L
namespace Mini.L
open Mini
variable {p : Sh} {L : Lg} {B : Bk} {H : MH} {d f k i j n l o t : Nat} {ls : List (List Nat)} {O : Flds} {T M : Nat → Nat}
noncomputable def dropS : Nat → MSs → MSs
  | 0, b => b
  | n + 1, .cons _ r => dropS n r
  | _, .nil => .nil
noncomputable def bodyS (m : MF) : MSs := match m.fk with | .body b => b | _ => .nil
section
variable {P : Prg} {cf : Nat → List MV → MH → RS MV} {lo : Loc} {ea eb : ME} {c : MT} {H H₁ H₂ : MH} {x : RS MV} {b b' : Bool} {v : MV}
theorem eIfT (h : evalT P cf c lo H = .ok true H₁) (k : evalE P cf ea lo H₁ = x) : evalE P cf (.ite c ea eb) lo H = x := bnd h k
theorem eIfF (h : evalT P cf c lo H = .ok false H₁) (k : evalE P cf eb lo H₁ = x) : evalE P cf (.ite c ea eb) lo H = x := bnd h k
theorem pair_ge {a b c e : Nat} : cmpop .ge (.tup [.int a, .int b]) (.tup [.int c, .int e]) = some (decide (c < a) || (decide (a = c) && decide (e ≤ b))) := by
  show some (decide ((c : Int) < a) || (decide ((a : Int) = c) && decide ((e : Int) ≤ b))) = _
  rw [decide_eq_decide.mpr Int.ofNat_lt, decide_eq_decide.mpr Int.ofNat_inj, decide_eq_decide.mpr Int.ofNat_le]
theorem idx_last {ys : List MV} : idxO (.list (ys ++ [v])) (.int (-((1 : Nat) : Int))) = some v := by
  have e : place (ys ++ [v]).length (-((1 : Nat) : Int)) = some ys.length := by
    unfold place
    rw [if_neg (by decide), List.length_append]
    show guardO (decide (-((ys.length + 1 : Nat) : Int) ≤ -1)) _ = _
    rw [decide_eq_true (by omega)]
    show some (-1 + ((ys.length + 1 : Nat) : Int)).toNat = _
    exact congrArg some (by omega)
  show ((place (ys ++ [v]).length (-((1 : Nat) : Int))).bind fun n => (ys ++ [v])[n]?).or _ = _
  rw [e]
  show ((ys ++ [v])[ys.length]?).or _ = _
  rw [List.getElem?_append_right (Nat.le_refl _), Nat.sub_self]; rfl
end
theorem Iv.c43 (I : Iv ls L B) : callN P (d + 2) 43 [.obj (lx p)] (HH p L O) = .ok (.bool B.pend) (HH p L O) := by
  have h := I.A.sn
  have g := I.N.pk
  cases hp : B.pend with
  | false => exact c43n (h.trans (by rw [hp]; rfl))
  | true => exact c43s (q := (B.base, tf B.now B.base)) (h.trans (by rw [hp]; rfl)) (Nat.ne_of_gt (g hp).2)
theorem Iv.gC (I : Iv ls L B) : getAttr P (.obj (lx p)) 22 (HH p L O) = some (.int B.com) := Mini.L.gC.trans (by rw [I.A.com])
theorem Iv.gA (I : Iv ls L B) : getAttr P (.obj (lx p)) 23 (HH p L O) = some (.int B.app) := Mini.L.gA.trans (by rw [I.A.app])
theorem c69 (I : Iv ls L B) : callN P (d + 5) 69 [.obj (lx p), .obj 3] (HH p L (bkF B)) = .ok (.bool true) (HH p L (bkF B)) :=
  callAt rfl (runR rfl (xA (eK rfl rfl) (xA (eBS (eTlN rfl) rfl I.pos) (x0 (tNe (eTup (eCons (eM rfl (mL rfl) rfl (c31 I.gd)) (eCons (eM rfl (mL rfl) rfl (c32 I.gd)) (eCons (eM rfl (mL rfl) rfl (c33 I.gd I.bl)) rfl)))) (eTup (eCons (eB (eK rfl rfl) rfl rfl) (eCons rfl (eCons (eTlI rfl rfl I.last) rfl)))) rfl rfl) rfl
    (xR (eEs (eTup (eCons (eAt rfl I.gC) (eCons (eAt rfl I.gA) (eCons (eM rfl (mL rfl) rfl I.c43) rfl)))) (eTup (eCons (eK rfl rfl) (eCons (eK rfl rfl) (eCons (eK rfl rfl) rfl)))) rfl rfl))))))
end Mini.L
namespace Mini.L
open Mini
variable {p : Sh} {L : Lg} {B : Bk} {H : MH} {d f i j n l o t a : Nat} {O : Flds} {T M : Nat → Nat}
theorem cbt_spec : ∀ {i : Nat}, f ≤ i →
    ((List.range' (max f 1) (i + 1 - max f 1)).filter (fun j => decide (T j ≤ t)) = [] ∧ cbt T f t i = (f - 1, 0)) ∨
    ∃ ys j, (List.range' (max f 1) (i + 1 - max f 1)).filter (fun j => decide (T j ≤ t)) = ys ++ [j] ∧ cbt T f t i = (j, T j) ∧ j ≤ i
  | 0, h => .inl (by rw [Nat.le_zero.mp h]; exact ⟨rfl, rfl⟩)
  | i + 1, h => by
    have e : cbt T f t (i + 1) = if T (i + 1) ≤ t then (i + 1, T (i + 1)) else cbt T f t i := if_neg (Nat.not_lt.mpr h)
    have hm : max f 1 ≤ i + 1 := Nat.max_le.mpr ⟨h, Nat.succ_le_succ (Nat.zero_le i)⟩
    have hr : List.range' (max f 1) (i + 1 + 1 - max f 1) = List.range' (max f 1) (i + 1 - max f 1) ++ [i + 1] := by
      rw [Nat.succ_sub hm, List.range'_concat, Nat.one_mul, Nat.add_sub_cancel' hm]
    rw [hr, List.filter_append, e]
    by_cases ht : T (i + 1) ≤ t
    · rw [if_pos ht]
      exact .inr ⟨_, i + 1, by rw [List.filter_cons, if_pos (decide_eq_true ht)]; rfl, rfl, Nat.le_refl _⟩
    · rw [if_neg ht, show [i + 1].filter (fun j => decide (T j ≤ t)) = [] by rw [List.filter_cons, if_neg (by rw [decide_eq_false ht]; decide)]; rfl, List.append_nil]
      by_cases hf : f ≤ i
      · exact (cbt_spec hf).imp id fun ⟨ys, j, h1, h2, h3⟩ => ⟨ys, j, h1, h2, Nat.le_succ_of_le h3⟩
      · have hf : f = i + 1 := Nat.le_antisymm h (Nat.lt_of_not_le hf)
        subst hf
        refine .inl ⟨by rw [Nat.sub_eq_zero_of_le (Nat.le_max_left ..)]; rfl, ?_⟩
        match i with
        | 0 => rfl
        | i + 1 => exact if_pos (Nat.lt_succ_self _)
theorem cbt_lo : ∀ {i : Nat}, i < f → cbt T f t i = (i, 0)
  | 0, _ => rfl
  | _ + 1, h => if_pos h
theorem c39u (G : Gd L T f l o) (h : l < i) (hi : i < 100000) : callN P (d + 4) 39 [.obj (lx p), .int i, .int t] (HH p L O) = .ok (.tup [.int i, .int (0 : Nat)]) (HH p L O) :=
  callAt rfl (runR rfl (xWr (wR rfl (nz (Nat.lt_of_le_of_lt (Nat.zero_le l) h)) (xTc (aX (eM rfl (mL rfl) rfl (c34u G h hi))) rfl))))
noncomputable def apt (T M : Nat → Nat) (f l : Nat) (j : Nat) : Bool := decide (j < f) || (decide (l < j) || !decide (T j = M j))
noncomputable def fca (T M : Nat → Nat) (f l n a : Nat) : Nat := if a < f then a else fcon T M l n a
theorem c38x (G : Gd L T f l o) (h : a < f) : callN P (d + 5) 38 [.obj (lx p), .list (es M a (n + 1))] (HH p L O) = .ok (.int a) (HH p L O) := by
  have hb := G.bd
  have hl := G.lo
  have hh := G.hi
  refine callAt rfl (runR rfl (xFr (vs := en (M a) a :: es M (a + 1) n) ((iO rfl).trans (by rw [es_succ])) (fR (xIr (tN (bnd (eM rfl (mL rfl) rfl (c35x G (.inl h) (by lia))) rfl)) rfl (xR rfl)))))
theorem c38g (G : Gd L T f l o) (h2 : 1 ≤ a) (h3 : a + (n + 1) < 1000) : callN P (d + 5) 38 [.obj (lx p), .list (es M a (n + 1))] (HH p L O) = .ok (.int (fca T M f l (n + 1) a)) (HH p L O) := by
  unfold fca
  by_cases h : a < f
  · rw [if_pos h]; exact c38x G h
  · rw [if_neg h]; exact c38 G (Nat.le_of_not_lt h) h2 h3
theorem fcon_head : ∀ {n a : Nat}, f ≤ a → ((List.range' a n).filter (apt T M f l) = [] ∧ fcon T M l n a = 0) ∨ ∃ zs, (List.range' a n).filter (apt T M f l) = fcon T M l n a :: zs
  | 0, _, _ => .inl ⟨rfl, rfl⟩
  | n + 1, a, h => by
    have e1 : decide (a < f) = false := decide_eq_false (Nat.not_lt.mpr h)
    rw [List.range'_succ, List.filter_cons]
    by_cases q : a ≤ l ∧ T a = M a
    · rw [show apt T M f l a = false by unfold apt; rw [e1, decide_eq_false (Nat.not_lt.mpr q.1), decide_eq_true q.2]; rfl, show fcon T M l (n + 1) a = fcon T M l n (a + 1) from if_pos q]
      exact fcon_head (Nat.le_succ_of_le h)
    · have e2 : apt T M f l a = true := by
        unfold apt
        by_cases hl : a ≤ l
        · rw [e1, decide_eq_false (Nat.not_lt.mpr hl), decide_eq_false fun e => q ⟨hl, e⟩]; rfl
        · rw [e1, decide_eq_true (Nat.lt_of_not_le hl)]; rfl
      rw [e2, show fcon T M l (n + 1) a = a from if_neg q]
      exact .inr ⟨_, rfl⟩
theorem fca_head : ((List.range' a (n + 1)).filter (apt T M f l) = [] ∧ fca T M f l (n + 1) a = 0) ∨ ∃ zs, (List.range' a (n + 1)).filter (apt T M f l) = fca T M f l (n + 1) a :: zs := by
  unfold fca
  by_cases h : a < f
  · rw [if_pos h, List.range'_succ, List.filter_cons, show apt T M f l a = true by unfold apt; rw [decide_eq_true h]; rfl]
    exact .inr ⟨_, rfl⟩
  · rw [if_neg h]; exact fcon_head (Nat.le_of_not_lt h)
end Mini.L
namespace Mini.L
open Mini
section
variable {P : Prg} {cf : Nat → List MV → MH → RS MV} {l : Loc} {e : ME} {it : MI} {tt : MT} {xi j : Nat} {H H₁ : MH} {ψ : Nat → Bool} {js ys : List Nat}
theorem eCompIfN (h : evalI P cf it l H = .ok (js.map fun (j : Nat) => MV.int (j : Int)) H₁) (hl : js.length ≤ 1000) (k : ∀ j ∈ js, evalT P cf tt (l.set xi (.val (.int (j : Int)))) H₁ = .ok (ψ j) H₁) (he : ∀ j : Nat, evalE P cf e (l.set xi (.val (.int (j : Int)))) H₁ = .ok (.int (j : Int)) H₁) : evalE P cf (.compIf e xi it tt) l H = .ok (tl (js.filter ψ)) H₁ :=
  eCompIf h (by rw [List.length_map]; exact hl) (mapR_some fun j hj => bnd (k j hj) (by
    rw [he j]
    cases ψ j <;> rfl))
theorem tl_last : idxO (tl (ys ++ [j])) (.int (-((1 : Nat) : Int))) = some (.int (j : Int)) := by rw [tl, List.map_append]; exact idx_last
end
variable {p : Sh} {L : Lg} {B : Bk} {H : MH} {d q i t be : Nat} {ls : List (List Nat)} {a : List Nat} {kn : Bool} {g v10 v11 v12 v13 v14 : LV} {x : SR}
noncomputable def l70 (p : Sh) (B : Bk) (a : List Nat) (q i : Nat) (kn : Bool) (g t w lo be ap : LV) : Loc := [.val (.obj (lx p)), .val (.obj 3), .val (tl a), .val (.int q), .val (tl B.now), .val (.int B.base), .val (.int ((B.now.length - 1 : Nat) : Int)), .val (.int i), .val (.bool kn), g, t, w, lo, be, ap, .un, .un]
noncomputable def kno (B : Bk) (i : Nat) : Bool := decide (B.base ≤ i) && decide (i ≤ B.now.length - 1)
theorem kno_cases (B : Bk) (i : Nat) : (kno B i = true ∧ B.base ≤ i ∧ i ≤ B.now.length - 1) ∨ (kno B i = false ∧ (i < B.base ∨ B.now.length - 1 < i)) := by
  unfold kno
  by_cases h1 : B.base ≤ i
  · by_cases h2 : i ≤ B.now.length - 1
    · exact .inl ⟨by rw [decide_eq_true h1, decide_eq_true h2]; rfl, h1, h2⟩
    · exact .inr ⟨by rw [decide_eq_false h2, Bool.and_false], .inr (Nat.lt_of_not_le h2)⟩
  · exact .inr ⟨by rw [decide_eq_false h1]; rfl, .inl (Nat.lt_of_not_le h1)⟩
theorem p70a (I : Iv ls L B) (hi : i < 1000) (K : ∀ g, execSs P (callN P (d + 5)) (dropS 7 (bodyS P01.f70)) (l70 p B a q i (kno B i) g .un .un .un .un .un) (HH p L (bkF B)) = x) : execSs P (callN P (d + 5)) (dropS 5 (bodyS P01.f70)) (l70 p B a q i (kno B i) .un .un .un .un .un .un) (HH p L (bkF B)) = x := by
  rcases kno_cases B i with ⟨hk, h1, h2⟩ | ⟨hk, h⟩
  · rw [hk] at K ⊢
    exact xTn (xA (eM rfl (mL rfl) rfl (c34 I.gd h1 h2)) rfl) (x0 (tNi rfl (eIfT (tT rfl) (eTlI rfl rfl (Nat.lt_of_le_of_lt h2 I.last)))) rfl (K _))
  · rw [hk] at K ⊢
    by_cases h1 : i < B.base
    · exact xTcn (aX (eM rfl (mL rfl) rfl (c34c I.gd h1))) rfl (x0 (tNi rfl (eIfF (tT rfl) (eIfT (tLtT rfl rfl h1) rfl))) rfl (K _))
    · exact xTcn (aX (eM rfl (mL rfl) rfl (c34u I.gd (h.resolve_left h1) (Nat.lt_trans hi (by decide))))) rfl (x0 (tNi rfl (eIfF (tT rfl) (eIfF (tLtF rfl rfl (Nat.le_of_not_lt h1)) rfl))) rfl (K _))
theorem p70b (I : Iv ls L B) (hi : i < 1000) (K : execSs P (callN P (d + 5)) (dropS 9 (bodyS P01.f70)) (l70 p B a q i (kno B i) g (.val (.int ((q / 7 % 5 : Nat) : Int))) .un .un .un .un) (HH p L (bkF B)) = x) : execSs P (callN P (d + 5)) (dropS 7 (bodyS P01.f70)) (l70 p B a q i (kno B i) g .un .un .un .un .un) (HH p L (bkF B)) = x := by
  refine xA (eBM (eBD rfl rfl (by decide) (by decide)) rfl (by decide)) ?_
  rcases kno_cases B i with ⟨hk, h1, h2⟩ | ⟨hk, h⟩
  · rw [hk] at K ⊢
    exact x0 (tNe (eM rfl (mL rfl) rfl (c35 I.gd h1 h2)) (eAndT rfl (eEq (eTlI rfl rfl (Nat.lt_of_le_of_lt h2 I.last)) rfl)) rfl rfl) rfl K
  · rw [hk] at K ⊢
    exact x0 (tNe (eM rfl (mL rfl) rfl (c35x I.gd h (Nat.lt_trans hi (by decide)))) (eAndF rfl) rfl rfl) rfl K
theorem p70c (I : Iv ls L B) (K : execSs P (callN P (d + 5)) (dropS 10 (bodyS P01.f70)) (l70 p B a q i kn g (.val (.int t)) .un .un .un .un) (HH p L (bkF B)) = x) : execSs P (callN P (d + 5)) (dropS 9 (bodyS P01.f70)) (l70 p B a q i kn g (.val (.int t)) .un .un .un .un) (HH p L (bkF B)) = x :=
  x0 (tNe (eM rfl (mL rfl) rfl (c54 I.gd I.bl)) (eC (eTup (eCons rfl (eCons rfl rfl))) (eTup (eCons (eTlI rfl rfl I.last) (eCons rfl rfl))) pair_ge) rfl rfl) rfl K
theorem maxP {f : Nat} : (if (f : Int) - ((1 : Nat) : Int) < ((0 : Nat) : Int) then ((0 : Nat) : Int) else (f : Int) - ((1 : Nat) : Int)) = ((f - 1 : Nat) : Int) := by split <;> omega
theorem p70d (I : Iv ls L B) (hi : i < 1000) (K : ∀ v12 w, execSs P (callN P (d + 5)) (dropS 13 (bodyS P01.f70)) (l70 p B a q i (kno B i) g (.val (.int t)) w v12 .un .un) (HH p L (bkF B)) = x) : execSs P (callN P (d + 5)) (dropS 10 (bodyS P01.f70)) (l70 p B a q i (kno B i) g (.val (.int t)) .un .un .un .un) (HH p L (bkF B)) = x := by
  refine xA (eTup (eCons rfl (eCons rfl rfl))) ?_
  rcases kno_cases B i with ⟨hk, h1, h2⟩ | ⟨hk, h⟩
  · rw [hk] at K ⊢
    have hl := I.l13
    have c39 := c39 (p := p) (O := bkF B) (d := d + 1) (t := t) I.gd h2
    have k12 : ∀ {w}, evalE P (callN P (d + 5)) (.compIf (.var 15) 15 (.range2 (.max2 (.var 5) (.int 1)) (.bin .add (.var 7) (.int 1))) (.cmp (.idx (.var 4) (.var 15)) (.one .le (.var 10)))) (l70 p B a q i true g (.val (.int t)) w .un .un .un) (HH p L (bkF B)) =
        .ok (tl ((List.range' (max B.base 1) (i + 1 - max B.base 1)).filter fun j => decide (tf B.now j ≤ t))) (HH p L (bkF B)) := fun {w} =>
      eCompIfN (iR2n (m := max B.base 1) (n := i + 1) (eMaxV rfl rfl maxN) (eBA rfl rfl) rfl rfl (by lia)) (by rw [List.length_range']; lia) (fun j hj => tLe (eTlI rfl rfl (by have := List.mem_range'_1.mp hj; lia)) rfl) fun j => rfl
    rcases cbt_spec (T := tf B.now) (t := t) h1 with ⟨e1, e2⟩ | ⟨ys, j, e1, e2, e3⟩
    · rw [e2] at c39
      rw [e1] at k12
      exact xI (tT rfl) rfl (xA k12 (xA (eIfF (tGtF (eTlN rfl) rfl (Nat.le_refl 0)) (eTup (eCons (eMaxV (eB rfl rfl rfl) rfl maxP) (eCons rfl rfl)))) rfl)) (x0 (tNe (eM rfl (mL rfl) rfl c39) rfl rfl rfl) rfl (K _ _))
    · rw [e2] at c39
      rw [e1] at k12
      have hj : j < B.now.length := Nat.lt_of_le_of_lt (Nat.le_trans e3 h2) I.last
      exact xI (tT rfl) rfl (xA k12 (xA (eIfT (tGtT (eTlN rfl) rfl (by rw [List.length_append]; exact Nat.succ_pos _)) (eTup (eCons (eIx rfl rfl tl_last) (eCons (eTlI rfl (eIx rfl rfl tl_last) hj) rfl)))) rfl)) (x0 (tNe (eM rfl (mL rfl) rfl c39) rfl rfl rfl) rfl (K _ _))
  · rw [hk] at K ⊢
    have c39 : callN P (d + 5) 39 [.obj (lx p), .int i, .int t] (HH p L (bkF B)) = .ok (.tup [.int i, .int (0 : Nat)]) (HH p L (bkF B)) := by
      rcases h with h | h
      · exact (c39 (d := d + 1) I.gd (Nat.le_trans (Nat.le_of_lt h) I.bl)).trans (by rw [cbt_lo h])
      · exact c39u I.gd h (Nat.lt_trans hi (by decide))
    exact x0 (tT rfl) rfl (x0 (tNe (eM rfl (mL rfl) rfl c39) rfl rfl rfl) rfl (K _ _))
theorem c70 (I : Iv ls L B) (ha : a ∈ ls) : callN P (d + 6) 70 [.obj (lx p), .obj 3, tl a, .int q] (HH p L (bkF B)) = .ok (.bool true) (HH p L (bkF B)) := by
  have hl := I.l13
  have h0 := I.pos
  have hal := I.F.len a ha
  obtain ⟨i, hi⟩ : ∃ i, i = q % (B.now.length - 1 + 3) := ⟨_, rfl⟩
  have hi2 : i < 1000 := Nat.lt_of_lt_of_le (hi ▸ Nat.mod_lt _ (Nat.succ_pos _)) (by lia)
  obtain ⟨be, hb⟩ : ∃ be, be = 1 + q / 3 % (a.length - 1) := ⟨_, rfl⟩
  have hb1 : 1 ≤ be := hb ▸ Nat.le_add_right ..
  obtain ⟨m, hm⟩ : ∃ m, a.length = be + (m + 1) := ⟨a.length - be - 1, by have := Nat.mod_lt (q / 3) (show 0 < a.length - 1 by lia); lia⟩
  refine callAt rfl (runR rfl (xA (eK rfl rfl) (xA (eK rfl rfl) (xA (eBS (eTlN rfl) rfl I.pos) (xA ((eBM rfl (eBA rfl rfl) (Nat.succ_ne_zero _)).trans (by rw [← hi])) (xA (eCh rfl rfl (le_int rfl) rfl (le_int rfl)) (p70a (q := q) (a := a) I hi2 fun g => p70b I hi2 (p70c I (p70d I hi2 fun v w => ?_)))))))))
  have k14 : evalE P (callN P (d + 5)) (.compIf (.var 16) 16 (.range2 (.var 13) (.len (.var 2))) (.or (.cons (.cmp (.var 16) (.one .lt (.var 5))) (.cons (.cmp (.var 16) (.one .gt (.var 6))) (.cons (.cmp (.idx (.var 4) (.var 16)) (.one .ne (.idx (.var 2) (.var 16)))) .nil))))) (l70 p B a q i (kno B i) g (.val (.int ((q / 7 % 5 : Nat) : Int))) w v (.val (.int be)) .un) (HH p L (bkF B)) =
      .ok (tl ((List.range' be (m + 1)).filter (apt (tf B.now) (tf a) B.base (B.now.length - 1)))) (HH p L (bkF B)) := by
    have hr : m + 1 = a.length - be := by rw [hm, Nat.add_sub_cancel_left]
    rw [hr]
    refine eCompIfN (iR2n rfl (eTlN rfl) rfl rfl (by lia)) (by rw [List.length_range']; lia) (fun j hj => ?_) fun j => rfl
    have hj : j < a.length := by have := List.mem_range'_1.mp hj; lia
    unfold apt
    by_cases q1 : j < B.base
    · rw [decide_eq_true q1]
      exact tO (tsX (tLtT rfl rfl q1) rfl)
    · by_cases q2 : B.now.length - 1 < j
      · rw [decide_eq_false q1, decide_eq_true q2]
        exact tO (tsC (tLtF rfl rfl (Nat.le_of_not_lt q1)) rfl (tsX (tGtT rfl rfl q2) rfl))
      · rw [decide_eq_false q1, decide_eq_false q2]
        have hj2 : j < B.now.length := Nat.lt_of_le_of_lt (Nat.le_of_not_lt q2) I.last
        refine tO (tsC (tLtF rfl rfl (Nat.le_of_not_lt q1)) rfl (tsC (tGtF rfl rfl (Nat.le_of_not_lt q2)) rfl ?_))
        have kn : evalT P (callN P (d + 5)) (.cmp (.idx (.var 4) (.var 16)) (.one .ne (.idx (.var 2) (.var 16)))) ((l70 p B a q i (kno B i) g (.val (.int ((q / 7 % 5 : Nat) : Int))) w v (.val (.int be)) .un).set 16 (.val (.int j))) (HH p L (bkF B)) = .ok (!decide (tf B.now j = tf a j)) (HH p L (bkF B)) := tC (eTlI rfl rfl hj2) (eTlI rfl rfl hj) (ne_int (decide_eq_decide.mpr Int.ofNat_inj))
        cases hd : decide (tf B.now j = tf a j) with
        | true => rw [hd] at kn; exact tsC kn rfl tsN
        | false => rw [hd] at kn; exact tsX kn rfl
  have c38 := c38g (p := p) (O := bkF B) (d := d) (M := tf a) I.gd hb1 (n := m) (by lia)
  have c64 := c64 (d := d + 3) (H := HH p L (bkF B)) (ts := a) (m := be) (n := a.length) (by lia) (by lia) (by lia) (fun j _ => Nat.lt_of_le_of_lt (I.F.tb a ha j) (by decide))
  rw [Nat.min_self, show a.length - be = m + 1 by rw [hm, Nat.add_sub_cancel_left]] at c64
  refine xA ((eBA rfl (eBM (eBD rfl rfl (by decide) (by decide)) (eBS (eTlN rfl) rfl (by lia)) (by lia))).trans (by rw [← hb])) (xA k14 (xR (eEi (eM rfl (mL rfl) (eCons (eCl (eCons rfl (eCons rfl (eCons (eTlN rfl) rfl))) c64) rfl) c38) ?_)))
  rcases fca_head (T := tf B.now) (M := tf a) (f := B.base) (l := B.now.length - 1) (a := be) (n := m) with ⟨e1, e2⟩ | ⟨zs, e1⟩
  · rw [e1, e2]
    exact eIfF (tGtF (eTlN rfl) rfl (Nat.le_refl 0)) rfl
  · rw [e1]
    exact eIfT (tGtT (eTlN rfl) rfl (Nat.succ_pos _)) (eTlI (a := _ :: zs) (j := 0) rfl rfl (Nat.succ_pos _))
end Mini.L
namespace Mini.L
open Mini
variable {p : Sh} {L : Lg} {B : Bk} {H : MH} {d q i t k f l o lo hi lim m c : Nat} {ls : List (List Nat)} {O : Flds} {T : Nat → Nat}
noncomputable def rdy (B : Bk) : Nat := if B.pend then 0 else grow B.most (B.com - max B.app B.base) (max B.app B.base + 1) 0 true
theorem grow_iff : m < c ↔ 0 < grow lim (c - m) i 0 true := by
  constructor
  · intro h
    obtain ⟨n, hn⟩ := Nat.exists_eq_add_of_lt h
    rw [hn, Nat.add_assoc, Nat.add_sub_cancel_left]; exact grow_pos
  · intro h
    exact Nat.lt_of_not_le fun q => absurd h (by rw [Nat.sub_eq_zero_of_le q]; exact Nat.lt_irrefl 0)
theorem Iv.sn (I : Iv ls L B) : (B.pend = true ∧ L.sn = some (B.base, tf B.now B.base) ∧ B.base ≠ 0) ∨ (B.pend = false ∧ L.sn = none) := by
  have h := I.A.sn
  have g := I.N.pk
  cases hp : B.pend with
  | true => exact .inl ⟨rfl, h.trans (by rw [hp]; rfl), Nat.ne_of_gt (g hp).2⟩
  | false => exact .inr ⟨rfl, h.trans (by rw [hp]; rfl)⟩
theorem Iv.c60 (I : Iv ls L B) : callN P (d + 4) 60 [.obj (lx p)] (HH p L O) = .ok (.bool (decide (0 < rdy B))) (HH p L O) := by
  rcases I.sn with ⟨hp, hs, hb⟩ | ⟨hp, hs⟩
  · rw [show rdy B = 0 by unfold rdy; rw [hp]; rfl]
    exact c60s (d := d + 1) hs hb
  · rw [show rdy B = grow B.most (B.com - max B.app B.base) (max B.app B.base + 1) 0 true by unfold rdy; rw [hp]; rfl]
    exact (c60n I.gd hs).trans (congrArg (fun b => RS.ok (MV.bool b) _) (decide_eq_decide.mpr (by rw [I.A.com, I.A.app]; exact grow_iff)))
theorem Iv.c61 (I : Iv ls L B) : callN P (d + 6) 61 [.obj (lx p)] (HH p L O) = .ok (.list (es (tf B.now) (max B.app B.base + 1) (rdy B))) (HH p L O) := by
  rcases I.sn with ⟨hp, hs, hb⟩ | ⟨hp, hs⟩
  · rw [show rdy B = 0 by unfold rdy; rw [hp]; rfl]
    exact c61s (d := d + 2) hs hb
  · rw [show rdy B = grow B.most (B.com - max B.app B.base) (max B.app B.base + 1) 0 true by unfold rdy; rw [hp]; rfl, ← I.A.com, ← I.A.app, ← I.A.mx]
    by_cases h : max L.app B.base < L.com
    · exact Mini.L.c61 I.gd hs h (by rw [I.A.com]; exact Nat.le_sub_one_of_lt I.N.cl)
    · rw [Nat.sub_eq_zero_of_le (Nat.le_of_not_lt h)]
      exact c61e (d := d + 1) I.gd hs (Nat.le_of_not_lt h)
theorem c67x {ts : List Nat} (h1 : hi < lo) (h2 : lo ≤ ts.length + 1) (h3 : hi ≤ ts.length) (hl : ts.length ≤ 90) (ht : ∀ j, j < ts.length → tf ts j < 256) : callN P (d + 3) 67 [tl ts, .int lo, .int hi, .int lim] H = .ok (.list []) H := by
  have e : evalI P (callN P (d + 1)) (.range2 (.var 1) (.var 2)) [.val (tl ts), .val (.int lo), .val (.int lo), .un] H = .ok [] H := by
    have k := iR2n (P := P) (cf := callN P (d + 1)) (l := [.val (tl ts), .val (.int lo), .val (.int lo), .un]) (H := H) (a := .var 1) (e := .var 2) (m := lo) (n := lo) rfl rfl rfl rfl (by lia)
    rw [Nat.sub_self] at k; exact k
  have k65 : callN P (d + 2) 65 [tl ts, .int lo, .int lo] H = .ok (.list []) H := callAt rfl (runR rfl (xR (eComp e (Nat.zero_le _) rfl)))
  exact callAt rfl (runR rfl (xA rfl (xA rfl (xWn (w0 (tA (tsX (tLtF rfl rfl (Nat.le_of_lt h1)) rfl)) rfl) (xR (eCl rfl k65))))))
theorem c44x (G : Gd L T f l o) (h : l < lo) : callN P (d + 6) 44 [.obj (lx p), .int lo, .int lim] (HH p L O) = .ok (.list []) (HH p L O) :=
  callAt rfl (runR rfl (xIr (tGtT rfl (eM rfl (mL rfl) rfl (c32 G)) h) rfl (xR rfl)))
theorem rs_len {a n : Nat} : (rs T a n).length = n := by rw [rs, List.length_map, List.length_range]
theorem eRsN {cf : Nat → List MV → MH → RS MV} {e : ME} {lc : Loc} {a n : Nat} {H H₁ : MH} (h : evalE P cf e lc H = .ok (.list (rs T a n)) H₁) : evalE P cf (.len e) lc H = .ok (.int n) H₁ := eLen h (congrArg (fun k : Nat => some (MV.int k)) rs_len)
theorem eClX {cf : Nat → List MV → MH → RS MV} {e : ME} {lc : Loc} {r : MEs} {H H₁ : MH} (h : evalE P cf e lc H = .ex c H₁) : evalE P cf (.call f (.cons e r)) lc H = .ex c H₁ := bnx (bnx h)
theorem tCh3 {P : Prg} {cf : Nat → List MV → MH → RS MV} {ea eb ec ed : ME} {l : Loc} {H : MH} {o o' o'' : Cp} {v w u z : MV} {b b' b'' : Bool} (h : evalE P cf ea l H = .ok v H) (h2 : evalE P cf eb l H = .ok w H) (h3 : cmpop o v w = some b) (h4 : evalE P cf ec l H = .ok u H) (h5 : cmpop o' w u = some b') (h6 : evalE P cf ed l H = .ok z H) (h7 : cmpop o'' u z = some b'') : evalT P cf (.cmp ea (.cons o eb (.cons o' ec (.one o'' ed)))) l H = .ok (b && (b' && b'')) H := bnd h (bnd h2 (op h3 (by
  cases b with
  | false => rfl
  | true =>
    refine bnd h4 (op h5 ?_)
    cases b' with
    | false => rfl
    | true => exact bnd h6 (op h7 rfl))))
end Mini.L
namespace Mini.L
open Mini
variable {p : Sh} {L : Lg} {B : Bk} {H : MH} {d q i t k f l o lo lim m c a n : Nat} {ls : List (List Nat)} {O : Flds} {T : Nat → Nat} {rd lm kk lv hv pt gt wt : LV} {x : SR} {hi : Int}
theorem Iv.e1 (I : Iv ls L B) : B.now.length - 1 + 1 = B.now.length := Nat.sub_add_cancel I.pos
theorem Iv.t256 (I : Iv ls L B) : ∀ j, j < B.now.length → tf B.now j < 256 := fun _ _ => Nat.lt_of_le_of_lt (I.F.okt I.N.on) (by decide)
theorem Iv.l90 (I : Iv ls L B) : B.now.length ≤ 90 := Nat.le_trans I.l13 (by decide)
theorem Iv.c42 (I : Iv ls L B) : callN P (d + 1) 42 [.obj (lx p)] (HH p L O) = .ok (.list (es (tf B.now) (B.kept + 1) (B.now.length - (B.kept + 1)))) (HH p L O) := Mini.L.c42.trans (by rw [I.A.ue])
noncomputable def l71 (p : Sh) (B : Bk) (q : Nat) (rd lm kk lv hv pt gt wt : LV) : Loc := [.val (.obj (lx p)), .val (.obj 3), .val (.int q), .val (tl B.now), .val (.int B.base), .val (.int ((B.now.length - 1 : Nat) : Int)), .val (.int B.kept), rd, lm, kk, lv, hv, pt, gt, wt]
theorem p71a (I : Iv ls L B) (K : ∀ rd, execSs P (callN P (d + 6)) (dropS 8 (bodyS P01.f71)) (l71 p B q rd .un .un .un .un .un .un .un) (HH p L (bkF B)) = x) : execSs P (callN P (d + 6)) (dropS 4 (bodyS P01.f71)) (l71 p B q .un .un .un .un .un .un .un .un) (HH p L (bkF B)) = x := by
  have h13 := I.l13
  have k65 := c65 (d := d + 4) (H := HH p L (bkF B)) (ts := B.now) (m := B.kept + 1) (n := B.now.length) (Nat.le_trans I.N.kl (Nat.le_trans h13 (by decide))) (Nat.le_refl _) (Nat.le_trans h13 (by decide)) I.t256
  have k66 : ∀ {a n}, n ≤ 1000 → callN P (d + 6) 66 [.list (es (tf B.now) a n)] (HH p L (bkF B)) = .ok (.list (rs (tf B.now) a n)) (HH p L (bkF B)) := fun h => c66 h
  refine x0 (tNe (eCl (eCons (eM rfl (mL rfl) rfl I.c42) rfl) (k66 (Nat.le_trans (Nat.sub_le ..) (Nat.le_trans h13 (by decide))))) (eCl (eCons rfl (eCons (eBA rfl rfl) (eCons (eBAe rfl rfl I.e1) rfl))) k65) rs_plain7 rfl) rfl (xA rfl ?_)
  have go : rdy B ≤ 1000 → execSs P (callN P (d + 6)) (dropS 7 (bodyS P01.f71)) (l71 p B q (.val (.list (rs (tf B.now) (max B.app B.base + 1) (rdy B)))) .un .un .un .un .un .un .un) (HH p L (bkF B)) = x := fun hr =>
    x0 (tO (tsC (tNe (eM rfl (mL rfl) rfl I.c60) (eC (eRsN rfl) rfl (gt_int (decide_eq_decide.mpr Int.ofNat_lt))) rfl rfl) rfl (tsC (tNe (eCl (eCons (eM rfl (mL rfl) rfl I.c61) rfl) (k66 hr)) rfl rs_plain7 rfl) rfl tsN))) rfl (K _)
  cases hp : B.pend with
  | true =>
    have e : rdy B = 0 := by unfold rdy; rw [hp]; rfl
    rw [e] at go
    exact x0 (tN (tT (eK rfl rfl))) (congrArg not hp) (go (Nat.zero_le _))
  | false =>
    have e : rdy B = grow B.most (B.com - max B.app B.base) (max B.app B.base + 1) 0 true := by unfold rdy; rw [hp]; rfl
    have hm : max B.app B.base ≤ B.com := Nat.max_le.mpr ⟨I.N.ac, I.N.bc⟩
    have k67 := c67 (d := d + 3) (H := HH p L (bkF B)) (ts := B.now) (lo := max B.app B.base + 1) (hi := B.com + 1) (lim := B.most) (Nat.succ_le_succ hm) I.N.cl I.l90 I.t256
    rw [Nat.add_sub_add_right, ← e] at k67
    exact xI (tN (tT (eK rfl rfl))) (congrArg not hp) (xA (eCl (eCons rfl (eCons (eBA (eMaxV rfl (eK rfl rfl) (maxN.trans (by rw [Nat.max_comm]))) rfl) (eCons (eBA (eK rfl rfl) rfl) (eCons (eK rfl rfl) rfl)))) k67) rfl) (go (Nat.le_trans (e ▸ grow_le) (Nat.le_trans (Nat.sub_le ..) (Nat.le_trans (Nat.le_of_lt I.N.cl) (Nat.le_trans h13 (by decide))))))
theorem p71b (I : Iv ls L B) (K : ∀ kk, execSs P (callN P (d + 6)) (dropS 11 (bodyS P01.f71)) (l71 p B q rd (.val (.int ((q / 5 % 24 : Nat) : Int))) kk .un .un .un .un .un) (HH p L (bkF B)) = x) : execSs P (callN P (d + 6)) (dropS 8 (bodyS P01.f71)) (l71 p B q rd .un .un .un .un .un .un .un) (HH p L (bkF B)) = x := by
  have h13 := I.l13
  have hb := I.bl
  have hlt : q % (B.now.length - 1 + 2 - B.base) < B.now.length - 1 + 2 - B.base := Nat.mod_lt _ (Nat.sub_pos_of_lt (Nat.lt_add_right 1 (Nat.lt_succ_of_le hb)))
  obtain ⟨k, hk⟩ : ∃ k, k = B.base + 1 + q % (B.now.length - 1 + 2 - B.base) := ⟨_, rfl⟩
  have h1 : B.base < k := hk ▸ Nat.lt_of_lt_of_le (Nat.lt_succ_self _) (Nat.le_add_right ..)
  have h2 : k ≤ B.now.length + 1 := by have := I.e1; lia
  have e9 : evalE P (callN P (d + 6)) (.bin .add (.bin .add (.var 4) (.int 1)) (.bin .mod (.var 2) (.bin .sub (.bin .add (.var 5) (.int 2)) (.var 4)))) (l71 p B q rd (.val (.int ((q / 5 % 24 : Nat) : Int))) .un .un .un .un .un .un) (HH p L (bkF B)) = .ok (.int k) (HH p L (bkF B)) := hk ▸ eBA (eBA rfl rfl) (eBM rfl (eBS (eBA rfl rfl) rfl (Nat.le_trans hb (Nat.le_add_right ..))) (Nat.ne_of_gt (Nat.lt_of_le_of_lt (Nat.zero_le _) hlt)))
  refine xA (eBM (eBD rfl rfl (by decide) (by decide)) rfl (by decide)) (xA e9 ?_)
  by_cases hl : k ≤ B.now.length
  · have k44 := c44 (p := p) (O := bkF B) (d := d) (lim := q / 5 % 24) I.gd h1 (I.e1 ▸ hl)
    have k67 := c67 (d := d + 3) (H := HH p L (bkF B)) (ts := B.now) (lo := k) (lim := q / 5 % 24) hl (Nat.le_refl _) I.l90 I.t256
    rw [I.e1] at k44
    exact x0 (tNe (eCl (eCons (eM rfl (mL rfl) rfl k44) rfl) (c66 (Nat.le_trans grow_le (Nat.le_trans (Nat.sub_le ..) (Nat.le_trans h13 (by decide)))))) (eCl (eCons rfl (eCons rfl (eCons (eBAe rfl rfl I.e1) (eCons rfl rfl)))) k67) rs_plain7 rfl) rfl (K _)
  · have hl := Nat.lt_of_not_le hl
    exact x0 (tNe (v := .list []) (eCl (eCons (eM rfl (mL rfl) rfl (c44x (d := d) I.gd (Nat.lt_trans I.last hl))) rfl) (c66 (T := tf B.now) (a := 0) (n := 0) (Nat.zero_le _))) (eCl (eCons rfl (eCons rfl (eCons (eBAe rfl rfl I.e1) (eCons rfl rfl)))) (c67x hl h2 (Nat.le_refl _) I.l90 I.t256)) rfl rfl) rfl (K _)
end Mini.L
namespace Mini.L
open Mini
variable {p : Sh} {L : Lg} {B : Bk} {H : MH} {d q i t k f l o lo lim m c a n : Nat} {ls : List (List Nat)} {O : Flds} {T : Nat → Nat} {rd lm kk lv hv pt gt wt : LV} {x : SR} {hi : Int}
def HiOk (lo : Nat) (hi : Int) : Prop := (hi < (lo : Int) ∧ -1 ≤ hi) ∨ ∃ h : Nat, hi = h ∧ lo ≤ h ∧ h < 1000
theorem p71d (I : Iv ls L B) (hl : lo < 900) (hh : HiOk lo hi) (K : ∀ pt gt, execSs P (callN P (d + 6)) (dropS 17 (bodyS P01.f71)) (l71 p B q rd lm kk (.val (.int lo)) (.val (.int hi)) pt gt .un) (HH p L (bkF B)) = x) : execSs P (callN P (d + 6)) (dropS 13 (bodyS P01.f71)) (l71 p B q rd lm kk (.val (.int lo)) (.val (.int hi)) .un .un .un) (HH p L (bkF B)) = x := by
  have h13 := I.l13
  have hk := I.N.kl
  have hof := I.A.off
  have hu : L.ue.length = B.now.length - (B.kept + 1) := by rw [I.A.ue, es_len]
  have hs : L.off + L.ue.length = B.now.length := by rw [hof, hu]; exact Nat.add_sub_cancel' hk
  have no : ∀ {c}, (decide (B.kept < lo) && (c && decide (hi ≤ ((B.now.length - 1 + 1 : Nat) : Int)))) = false → cmpop .le (.int lo) (.int hi) = some c → callN P (d + 6) 28 [.obj (ux p), .int lo, .int hi] (HH p L (bkF B)) = .ex 9 (HH p L (bkF B)) → execSs P (callN P (d + 6)) (dropS 13 (bodyS P01.f71)) (l71 p B q rd lm kk (.val (.int lo)) (.val (.int hi)) .un .un .un) (HH p L (bkF B)) = x := fun hc hcm k28 =>
    xA rfl (x0 (tCh3 rfl rfl (lt_int rfl) rfl hcm (eBA rfl rfl) rfl) hc (xTcn (aX (eClX (eM (eAt rfl gU) (mU rfl) rfl k28))) rfl (x0 (tNe rfl rfl rfl rfl) rfl (K _ _))))
  rcases hh with ⟨h1, h2⟩ | ⟨h, rfl, h1, h2⟩
  · exact no (c := false) (Bool.and_false _) (congrArg some (decide_eq_false (Int.not_le.mpr h1))) (c28a h1 (Nat.lt_trans hl (by decide)) h2)
  · by_cases hc : B.kept < lo ∧ h ≤ B.now.length
    · have k28 := c28 (p := p) (L := L) (O := bkF B) (d := d + 5) (lo := lo) (hi := h) (hof ▸ hc.1) h1 (hs.symm ▸ hc.2)
      have e : (L.ue.take (h - L.off)).drop (lo - L.off) = es (tf B.now) lo (h - lo) := by
        rw [I.A.ue, hof, es_part (Nat.sub_le_sub_right h1 _) (Nat.sub_le_sub_right hc.2 _), Nat.add_sub_cancel' hc.1, Nat.sub_sub_sub_cancel_right hc.1]
      rw [e] at k28
      have k65 := c65 (d := d + 4) (H := HH p L (bkF B)) (ts := B.now) (m := lo) (n := h) (by lia) hc.2 (by lia) I.t256
      exact xA rfl (xI (tCh3 rfl rfl (lt_int (decide_eq_true hc.1)) rfl (le_int (decide_eq_true h1)) (eBAe rfl rfl I.e1) (le_int (decide_eq_true hc.2))) rfl (xA (eCl rfl k65) rfl) (xTn (xA (eCl (eCons (eM (eAt rfl gU) (mU rfl) rfl k28) rfl) (c66 (by lia))) rfl) (x0 (tNe rfl rfl rs_plain7 rfl) rfl (K _ _))))
    · refine no (c := true) ?_ (le_int (decide_eq_true h1)) (c28b h1 (by lia) (by lia) ?_)
      · rw [I.e1]
        by_cases q1 : B.kept < lo
        · rw [decide_eq_true q1, lf (Nat.lt_of_not_le fun q2 => hc ⟨q1, q2⟩)]; rfl
        · rw [decide_eq_false q1]; rfl
      · rw [hs, hof]
        by_cases q1 : B.kept < lo
        · exact .inr (Nat.lt_of_not_le fun q2 => hc ⟨q1, q2⟩)
        · exact .inl (Nat.lt_succ_of_le (Nat.le_of_not_lt q1))
theorem p71e (I : Iv ls L B) (hl : lo < 900) (hh : HiOk lo hi) : execSs P (callN P (d + 6)) (dropS 17 (bodyS P01.f71)) (l71 p B q rd (.val (.int lim)) kk (.val (.int lo)) (.val (.int hi)) pt gt .un) (HH p L (bkF B)) = .ret (.bool true) (HH p L (bkF B)) := by
  have h13 := I.l13
  have n9 : callN P (d + 6) 46 [.obj (lx p), .int lo, .int hi, .int lim] (HH p L (bkF B)) = .ex 9 (HH p L (bkF B)) → execSs P (callN P (d + 6)) (dropS 18 (bodyS P01.f71)) (l71 p B q rd (.val (.int lim)) kk (.val (.int lo)) (.val (.int hi)) pt gt (.val .none)) (HH p L (bkF B)) = .ret (.bool true) (HH p L (bkF B)) := fun k => xTcn (aX (eClX (eM rfl (mL rfl) rfl k))) rfl (xR (eEs rfl rfl rfl rfl))
  rcases hh with ⟨h1, h2⟩ | ⟨h, rfl, h1, h2⟩
  · exact xI (tO (tsX (tC rfl rfl (congrArg some (dn h1))) rfl)) rfl (xA rfl rfl) (n9 (c46a h1 (Nat.lt_trans hl (by decide)) h2))
  · have t1 : evalT P (callN P (d + 6)) (.cmp (.var 10) (.one .gt (.var 11))) (l71 p B q rd (.val (.int lim)) kk (.val (.int lo)) (.val (.int h)) pt gt .un) (HH p L (bkF B)) = .ok false (HH p L (bkF B)) := tGtF rfl rfl h1
    by_cases hb : B.base < lo
    · have t2 : evalT P (callN P (d + 6)) (.cmp (.var 10) (.one .gt (.var 4))) (l71 p B q rd (.val (.int lim)) kk (.val (.int lo)) (.val (.int h)) pt gt .un) (HH p L (bkF B)) = .ok true (HH p L (bkF B)) := tGtT rfl rfl hb
      by_cases hc : B.now.length < h
      · exact xI (tO (tsC t1 rfl (tsX (tA (tsC t2 rfl (tsC (tGtT rfl (eBAe rfl rfl I.e1) hc) rfl tsN))) rfl))) rfl (xA rfl rfl) (n9 (c46c I.gd h1 hb (I.e1.symm ▸ hc) (Nat.lt_trans h2 (by decide))))
      · have hc := Nat.le_of_not_lt hc
        have k67 := c67 (d := d + 3) (H := HH p L (bkF B)) (ts := B.now) (lo := lo) (lim := lim) h1 hc I.l90 I.t256
        have k46 : callN P (d + 6) 46 [.obj (lx p), .int lo, .int h, .int lim] (HH p L (bkF B)) = .ok (.list (es (tf B.now) lo (grow lim (h - lo) lo 0 true))) (HH p L (bkF B)) := by
          rcases Nat.lt_or_eq_of_le h1 with q1 | rfl
          · exact c46g I.gd hb q1 (I.e1.symm ▸ hc)
          · rw [Nat.sub_self]; exact c46e I.gd hb (I.e1.symm ▸ hc)
        exact xL (tO (tsC t1 rfl (tsC (tA (tsC t2 rfl (tsX (tGtF rfl (eBAe rfl rfl I.e1) hc) rfl))) rfl tsN))) rfl (xL (tLeF rfl rfl hb) rfl (xA (eCl rfl k67) rfl) rfl) (xTn (xA (eCl (eCons (eM rfl (mL rfl) rfl k46) rfl) (c66 (Nat.le_trans grow_le (by lia)))) rfl) (xR (eEs rfl rfl rs_plain7 rfl)))
    · have hb := Nat.le_of_not_lt hb
      exact xL (tO (tsC t1 rfl (tsC (tA (tsX (tGtF rfl rfl hb) rfl)) rfl tsN))) rfl (xI (tLeT rfl rfl hb) rfl (xA rfl rfl) rfl) (xTcn (aX (eClX (eM rfl (mL rfl) rfl (c46b I.gd h1 hb)))) rfl (xR (eEi rfl rfl)))
theorem c71 (I : Iv ls L B) : callN P (d + 7) 71 [.obj (lx p), .obj 3, .int q] (HH p L (bkF B)) = .ok (.bool true) (HH p L (bkF B)) := by
  have h13 := I.l13
  refine callAt rfl (runR rfl (xA (eK rfl rfl) (xA (eK rfl rfl) (xA (eBS (eTlN rfl) rfl I.pos) (xA (eK rfl rfl) (p71a (q := q) I fun rd => p71b I fun kk => ?_))))))
  have hlo : q / 3 % (B.now.length - 1 + 3) < 900 := Nat.lt_of_lt_of_le (Nat.mod_lt _ (Nat.succ_pos _)) (by lia)
  refine xA (eBM (eBD rfl rfl (by decide) (by decide)) (eBA rfl rfl) (Nat.succ_ne_zero _)) ?_
  generalize q / 3 % (B.now.length - 1 + 3) = lo at hlo
  have hw : q / 11 % 7 < 7 := Nat.mod_lt _ (by decide)
  have hh : HiOk lo (((lo + q / 11 % 7 : Nat) : Int) - ((1 : Nat) : Int)) := by
    generalize q / 11 % 7 = w at hw
    match w with
    | 0 => exact .inl (by lia)
    | w + 1 => exact .inr ⟨lo + w, by lia, by lia, by lia⟩
  exact xA (eB (eBA rfl (eBM (eBD rfl rfl (by decide) (by decide)) rfl (by decide))) rfl rfl) (p71d I hlo hh fun pt gt => p71e I hlo hh)
end Mini.L
namespace Mini.L
open Mini
variable {p : Sh} {L : Lg} {B : Bk} {H : MH} {d q i t k f l o lo lim m c a n cm : Nat} {ls : List (List Nat)} {O : Flds} {T M : Nat → Nat} {x : SR} {E : List MV}
theorem c41x (G : Gd L T f l o) (h1 : L.com < i) (h2 : l < i) (hi : i < 100000) : callN P (d + 3) 41 [.obj (lx p), .int i] (HH p L O) = .ex 9 (HH p L O) := by
  have hb := G.bd
  exact callAt rfl (runX rfl (x0 (tLeF rfl (eAt rfl gC) h1) rfl (xIx (tGtT rfl (eM rfl (mL rfl) rfl (c32 G)) h2) rfl (xX (eCons rfl (eCons (eM rfl (mL rfl) rfl (c32 G)) rfl)) (aI (by lia) (aI (by lia) rfl))))))
theorem c40x (h : k < L.com) (hk : k < 100000) (hc : L.com < 100000) : callN P (d + 2) 40 [.obj (lx p), snapE k t] (HH p L O) = .ex 8 (HH p L O) :=
  callAt rfl (runX rfl (xIx (tLtT (eAt rfl rfl) (eAt rfl gC) h) rfl (xX (eCons (eAt rfl rfl) (eCons (eAt rfl gC) rfl)) (aI (by lia) (aI (by lia) rfl)))))
theorem c37e (G : Gd L T f l o) : callN P (d + 3) 37 [.obj (lx p), .list []] (HH p L O) = .ok (.int l) (HH p L O) :=
  callAt rfl (runR rfl (xIr rfl rfl (xR (eM rfl (mL rfl) rfl (c32 G)))))
theorem esN {cf : Nat → List MV → MH → RS MV} {e : ME} {lc : Loc} {a n : Nat} {H H₁ : MH} (h : evalE P cf e lc H = .ok (.list (es T a n)) H₁) : evalE P cf (.len e) lc H = .ok (.int n) H₁ := eLen h (congrArg (fun k : Nat => some (MV.int k)) es_len)
theorem es1 {cf : Nat → List MV → MH → RS MV} {e : ME} {lc : Loc} {a n : Nat} {H H₁ : MH} (h : evalE P cf e lc H = .ok (.list (es T a (n + 1))) H₁) : evalE P cf (.attr (.idx e (.int 0)) 1) lc H = .ok (.int a) H₁ := eAt (v := en (T a) a) (eIx h rfl (idx_list (k := 0) (es_get (Nat.succ_pos n)))) rfl
theorem c37x (h : k < L.com) (hk : k < 1000) (hc : L.com < 1000) : callN P (d + 3) 37 [.obj (lx p), .list (es M (k + 1) (n + 1))] (HH p L O) = .ex 9 (HH p L O) :=
  callAt rfl (runX rfl (x0 (tEqF (esN rfl) rfl (Nat.succ_ne_zero n)) rfl (xA (eBS (es1 rfl) rfl (Nat.succ_pos k)) (xIx (tLtT rfl (eAt rfl gC) h) rfl (xX (eCons rfl (eCons (eAt rfl gC) rfl)) (aI (Nat.lt_trans hk (by decide)) (aI (Nat.lt_trans hc (by decide)) rfl)))))))
theorem c37y (G : Gd L T f l o) (h1 : L.com ≤ k) (h : l < k) (hk : k < 1000) : callN P (d + 3) 37 [.obj (lx p), .list (es M (k + 1) (n + 1))] (HH p L O) = .ex 7 (HH p L O) :=
  callAt rfl (runX rfl (x0 (tEqF (esN rfl) rfl (Nat.succ_ne_zero n)) rfl (xA (eBS (es1 rfl) rfl (Nat.succ_pos k)) (x0 (tLtF rfl (eAt rfl gC) h1) rfl (xIx (tGtT rfl (eM rfl (mL rfl) rfl (c32 G)) h) rfl (xX (eCons rfl (eCons (eM rfl (mL rfl) rfl (c32 G)) rfl)) (aI (Nat.lt_trans hk (by decide)) (aI (Nat.lt_trans G.bd (by decide)) rfl))))))))
theorem c36x (G : Gd L T f l o) (h : i < f) : callN P (d + 5) 36 [.obj (lx p), .int i, .int t, .int cm, .list E] (HH p L O) = .ok .none (HH p L O) := by
  have hb := G.bd
  have hl := G.lo
  have hh := G.hi
  exact callAt rfl (runR rfl (xIr (tN (bnd (eM rfl (mL rfl) rfl (c35x G (.inl h) (by lia))) rfl)) rfl (xR rfl)))
theorem loop36h {s u w : MV} : ∀ (m a : Nat) (x : LV), i + (a + m) < 1000 → (∀ j, a ≤ j → j < a + m → Ixd E j (i + 1 + j)) → Ixd E (a + m) (i + 1 + (a + m) + 1) →
    ∃ y, forM 5 (execSs P (callN P d) bd36) ((List.range' a (m + 1)).map fun (j : Nat) => MV.int (j : Int)) (loc36 s (.int i) u w (.list E) x) H = .exm 7 y H
  | 0, a, x, hs, _, h => by
    obtain ⟨v, h1, h2⟩ := h
    exact ⟨_, fX (xIx (tC (eAt (eIx rfl rfl (idx_list h1)) (h2 H)) rfl rfl) (congrArg not (ef (Nat.succ_ne_self (i + 1 + a)))) (xX (eCons (eAt (eIx rfl rfl (idx_list h1)) (h2 H)) (eCons (eBA (eBA rfl rfl) rfl) rfl)) (aI (by lia) (aI (by lia) rfl))))⟩
  | m + 1, a, x, hs, h, hb => by
    obtain ⟨v, h1, h2⟩ := h a (Nat.le_refl _) (by lia)
    obtain ⟨y, k⟩ := loop36h m (a + 1) (.val (.int a)) (by lia) (fun j hj hm => h j (by lia) (by lia)) (by rw [Nat.add_right_comm]; exact hb)
    refine ⟨y, ?_⟩
    rw [List.range'_succ, List.map_cons]
    exact fN (x0 (tC (eAt (eIx rfl rfl (idx_list h1)) (h2 H)) rfl rfl) (congrArg not (ez rfl)) rfl) k
theorem c36h (G : Gd L T f l o) (h1 : f ≤ i) (h2 : i ≤ l) (ht : T i = t) (hn : n < 100) (hE : E.length = n + 1) (hx : ∀ j, j < n → Ixd E j (i + 1 + j)) (hb : Ixd E n (i + 1 + n + 1)) : callN P (d + 6) 36 [.obj (lx p), .int i, .int t, .int cm, .list E] (HH p L O) = .ex 7 (HH p L O) := by
  have hbd := G.bd
  have hl : lenO (.list E) = some (.int ((n + 1 : Nat) : Int)) := congrArg (fun k : Nat => some (MV.int k)) hE
  obtain ⟨y, k⟩ := loop36h (d := d + 5) (H := HH p L O) (E := E) (s := .obj (lx p)) (u := .int t) (w := .int cm) (i := i) n 0 .un (by lia) (fun j _ hj => hx j (by rw [Nat.zero_add] at hj; exact hj)) (by rw [Nat.zero_add]; exact hb)
  exact callAt rfl (runX rfl (x0 (tN (bnd (eM rfl (mL rfl) rfl (c35 G h1 h2)) rfl)) (congrArg not (decide_eq_true ht)) (xFx (iR1n (eLen rfl hl) (by lia)) k)))
theorem c36p (G : Gd L T f l o) (h1 : f ≤ i) (h2 : i ≤ l) (ht : T i = t) (hn : i + n < 100) (hc : fcon T M l n (i + 1) = c) (hf : i < c) (hcom : c ≤ L.com) (hb : L.com < 1000) :
    callN P (d + 6) 36 [.obj (lx p), .int i, .int t, .int cm, .list (es M (i + 1) n)] (HH p L O) = .ex 9 (HH p L O) := by
  have hlen : (es M (i + 1) n).length = n := es_len
  obtain ⟨y, k⟩ := loop36 (d := d + 5) (H := HH p L O) (E := es M (i + 1) n) (s := .obj (lx p)) (u := .int t) (w := .int cm) (i := i) n 0 .un fun j _ hj => es_ixd (by rw [Nat.zero_add] at hj; exact hj)
  have k38 := c38 (p := p) (O := O) (M := M) (d := d) (n := n) (a := i + 1) G (by lia) (by lia) (by lia)
  rw [hc] at k38
  exact callAt rfl (runX rfl (x0 (tN (bnd (eM rfl (mL rfl) rfl (c35 G h1 h2)) rfl)) (congrArg not (decide_eq_true ht)) (xFn (iR1n (eLen rfl (congrArg (fun k : Nat => some (MV.int k)) hlen)) (by lia)) k
    (xA (eB (w := .int n) rfl (eLen rfl (congrArg (fun k : Nat => some (MV.int k)) hlen)) rfl) (xA (eM rfl (mL rfl) rfl k38) (xIx (tC rfl rfl (ne_int (ef (Nat.ne_of_gt (Nat.lt_of_le_of_lt (Nat.zero_le i) hf))))) rfl (xIx (tLeT rfl (eAt rfl gC) hcom) rfl (xX (eCons rfl (eCons (eAt rfl gC) rfl)) (aI (by lia) (aI (by lia) rfl))))))))))
end Mini.L
namespace Mini.L
open Mini
variable {p : Sh} {L : Lg} {B : Bk} {H : MH} {d q i t k f l o lo lim m c a n cm x : Nat} {ls : List (List Nat)} {O : Flds} {T M : Nat → Nat} {E : List MV}
theorem Iv.setA (I : Iv ls L B) (h : i ≤ B.com) : Iv ls { L with app := i } { B with app := i } :=
  ⟨I.F, ⟨I.A.off, I.A.ue, I.A.com, rfl, I.A.mx, I.A.sn⟩, ⟨I.S.b, I.S.t, I.S.st, I.S.sp⟩, { I.N with ac := h }⟩
theorem Iv.setC (I : Iv ls L B) (h : i < B.now.length) : Iv ls { L with com := max L.com i } { B with com := max B.com i } :=
  ⟨I.F, ⟨I.A.off, I.A.ue, congrArg (max · i) I.A.com, I.A.app, I.A.mx, I.A.sn⟩, ⟨I.S.b, I.S.t, I.S.st, I.S.sp⟩, { I.N with ac := Nat.le_trans I.N.ac (Nat.le_max_left ..), bc := Nat.le_trans I.N.bc (Nat.le_max_left ..), cl := Nat.max_lt.mpr ⟨I.N.cl, h⟩ }⟩
section
variable {P : Prg} {cf : Nat → List MV → MH → RS MV} {ea eb ec : ME} {lo : Loc} {H H₁ H₂ H₃ : MH} {b b' : Bool}
theorem eOr2 (h : evalE P cf ea lo H = .ok (.bool b) H₁) (k : evalE P cf eb lo H₁ = .ok (.bool b') H₁) : evalE P cf (.or (.cons ea (.cons eb .nil))) lo H = .ok (.bool (b || b')) H₁ := by
  cases b with
  | true => exact eOrT h
  | false => exact eOrF h k
theorem eAnd2 (h : evalE P cf ea lo H = .ok (.bool b) H₁) (k : b = true → evalE P cf eb lo H₁ = .ok (.bool b') H₁) : evalE P cf (.and (.cons ea (.cons eb .nil))) lo H = .ok (.bool (b && b')) H₁ := by
  cases b with
  | false => exact eAndF h
  | true => exact eAndT h (k rfl)
theorem eAnd3 {c : Bool} (h : evalE P cf ea lo H = .ok (.bool b) H₁) (k : b = true → evalE P cf (.and (.cons eb (.cons ec .nil))) lo H₁ = .ok (.bool c) H₁) : evalE P cf (.and (.cons ea (.cons eb (.cons ec .nil)))) lo H = .ok (.bool (b && c)) H₁ := by
  cases b with
  | false => exact bnd h rfl
  | true => exact bnd h (k rfl)
theorem eGt {i j : Nat} (h : evalE P cf ea lo H = .ok (.int i) H₁) (h2 : evalE P cf eb lo H₁ = .ok (.int j) H₂) : evalE P cf (.cmp ea (.one .gt eb)) lo H = .ok (.bool (decide (j < i))) H₂ := eC h h2 (gt_int (decide_eq_decide.mpr Int.ofNat_lt))
theorem eLt {i j : Nat} (h : evalE P cf ea lo H = .ok (.int i) H₁) (h2 : evalE P cf eb lo H₁ = .ok (.int j) H₂) : evalE P cf (.cmp ea (.one .lt eb)) lo H = .ok (.bool (decide (i < j))) H₂ := eC h h2 (lt_int rfl)
theorem eLe {i j : Nat} (h : evalE P cf ea lo H = .ok (.int i) H₁) (h2 : evalE P cf eb lo H₁ = .ok (.int j) H₂) : evalE P cf (.cmp ea (.one .le eb)) lo H = .ok (.bool (decide (i ≤ j))) H₂ := eC h h2 (le_int rfl)
end
noncomputable def l76 (p : Sh) (B : Bk) (w x i : Nat) (r t m : LV) : Loc := [.val (.obj (lx p)), .val (.obj 3), .val (.int w), .val (.int x), .val (tl B.now), .val (.int B.com), .val (.int i), r, t, m]
def Fin (ls : List (List Nat)) (p : Sh) (B : Bk) (y : SR) : Prop := ∃ L' B', Iv ls L' B' ∧ B'.most = B.most ∧ y = .ret (.bool true) (HH p L' (bkF B'))
theorem p76a (I : Iv ls L B) (hi : i < 1000) : Fin ls p B (execSs P (callN P (d + 5)) (dropS 3 (bodyS P01.f76)) (l76 p B 5 x i .un .un .un) (HH p L (bkF B))) := by
  have h13 := I.l13
  have hc := I.N.cl
  have ha := I.N.ac
  have k7 : evalE P (callN P (d + 5)) (.or (.cons (.cmp (.var 6) (.one .eq (.int 0))) (.cons (.cmp (.key (.var 1) 23) (.cons .le (.var 6) (.one .le (.var 5)))) .nil))) (l76 p B 5 x i .un .un .un) (HH p L (bkF B)) = .ok (.bool (decide (i = 0) || (decide (B.app ≤ i) && decide (i ≤ B.com)))) (HH p L (bkF B)) :=
    eOr2 (eEq rfl rfl) (eCh (eK rfl rfl) rfl (le_int rfl) rfl (le_int rfl))
  by_cases h0 : i = 0
  · subst h0
    exact ⟨L, B, I, rfl, xIr rfl rfl (xA k7 (x0 (tA (tsC (tT rfl) rfl (tsX (tGtF rfl rfl (Nat.le_refl 0)) rfl))) rfl (xTn (xE (eM rfl (mL rfl) rfl c56z) rfl) (xR rfl))))⟩
  · rw [decide_eq_false h0] at k7
    by_cases h1 : B.app ≤ i ∧ i ≤ B.com
    · rw [decide_eq_true h1.1, decide_eq_true h1.2] at k7
      exact ⟨_, _, I.setA h1.2, rfl, xIr rfl rfl (xA k7 (xI (tA (tsC (tT rfl) rfl (tsC (tGtT rfl rfl (Nat.pos_of_ne_zero h0)) rfl tsN))) rfl (xK rfl rfl rfl (Nat.lt_of_sub_eq_succ rfl) rfl) (xTn (xE (eM rfl (mL rfl) rfl (c56 h0 (I.A.app.symm ▸ h1.1) (I.A.com.symm ▸ h1.2))) rfl) (xR rfl))))⟩
    · have e : (decide (B.app ≤ i) && decide (i ≤ B.com)) = false := by
        rw [← Bool.decide_and]; exact decide_eq_false h1
      rw [e] at k7
      refine ⟨L, B, I, rfl, xIr rfl rfl (xA k7 (x0 (tA (tsX (tT rfl) rfl)) rfl (xTc (eX (eM rfl (mL rfl) rfl (c56x h0 ?_ (Nat.lt_trans hi (by decide)) ?_ ?_))) rfl)))⟩
      · rw [I.A.com, I.A.app]; exact (Nat.lt_or_ge i B.app).symm.imp (fun q => Nat.lt_of_not_le fun q2 => h1 ⟨q, q2⟩) id
      · rw [I.A.app]; lia
      · rw [I.A.com]; lia
theorem p76b (I : Iv ls L B) (hi : i < 1000) (hx : x % 2 = 0) : Fin ls p B (execSs P (callN P (d + 5)) (dropS 3 (bodyS P01.f76)) (l76 p B 4 x i .un .un .un) (HH p L (bkF B))) := by
  have hc := I.N.cl
  have k7 : evalE P (callN P (d + 5)) (.or (.cons (.cmp (.var 6) (.one .le (.var 5))) (.cons (.cmp (.var 6) (.one .lt (.len (.var 4)))) .nil))) (l76 p B 4 x i .un .un .un) (HH p L (bkF B)) = .ok (.bool (decide (i ≤ B.com) || decide (i < B.now.length))) (HH p L (bkF B)) := eOr2 (eLe rfl rfl) (eLt rfl (eTlN rfl))
  have t2 : evalT P (callN P (d + 5)) (.cmp (.bin .mod (.var 3) (.int 2)) (.one .eq (.int 0))) (l76 p B 4 x i .un .un .un) (HH p L (bkF B)) = .ok true (HH p L (bkF B)) := tEqT (eBM rfl rfl (by decide)) rfl hx
  by_cases h1 : i < B.now.length
  · rw [decide_eq_true h1, Bool.or_true] at k7
    exact ⟨_, _, I.setC h1, rfl, x0 rfl rfl (xIr t2 rfl (xA k7 (xI (tT rfl) rfl (xK (eMaxV rfl rfl maxN) rfl rfl (Nat.lt_of_sub_eq_succ rfl) rfl) (xTn (xE (eM rfl (mL rfl) rfl (c41 I.gd (Nat.le_sub_one_of_lt h1))) rfl) (xR rfl)))))⟩
  · have h2 : ¬ i ≤ B.com := fun q => h1 (Nat.lt_of_le_of_lt q hc)
    rw [decide_eq_false h1, decide_eq_false h2] at k7
    exact ⟨L, B, I, rfl, x0 rfl rfl (xIr t2 rfl (xA k7 (x0 (tT rfl) rfl (xTc (eX (eM rfl (mL rfl) rfl (c41x I.gd (by rw [I.A.com]; exact Nat.lt_of_not_le h2) (Nat.lt_of_lt_of_le I.last (Nat.le_of_not_lt h1)) (Nat.lt_trans hi (by decide))))) rfl))))⟩
theorem p76c (I : Iv ls L B) (hi : i < 1000) (hx : x % 2 ≠ 0) : Fin ls p B (execSs P (callN P (d + 5)) (dropS 3 (bodyS P01.f76)) (l76 p B 4 x i .un .un .un) (HH p L (bkF B))) := by
  have t2 : evalT P (callN P (d + 5)) (.cmp (.bin .mod (.var 3) (.int 2)) (.one .eq (.int 0))) (l76 p B 4 x i .un .un .un) (HH p L (bkF B)) = .ok false (HH p L (bkF B)) := tEqF (eBM rfl rfl (by decide)) rfl hx
  obtain ⟨t, ht⟩ : ∃ t, t = x / 20 % 5 := ⟨_, rfl⟩
  have k8 : evalE P (callN P (d + 5)) (.bin .mod (.bin .fdiv (.var 3) (.int 20)) (.int 5)) (l76 p B 4 x i .un .un .un) (HH p L (bkF B)) = .ok (.int t) (HH p L (bkF B)) := ht ▸ eBM (eBD rfl rfl (by decide) (by decide)) rfl (by decide)
  have k9 : evalE P (callN P (d + 5)) (.and (.cons (.cmp (.var 5) (.cons .lt (.var 6) (.one .lt (.len (.var 4))))) (.cons (.cmp (.idx (.var 4) (.var 6)) (.one .eq (.var 8))) (.cons (.cmp (.var 8) (.one .gt (.int 0))) .nil)))) (l76 p B 4 x i .un (.val (.int t)) .un) (HH p L (bkF B)) =
      .ok (.bool ((decide (B.com < i) && decide (i < B.now.length)) && (decide (tf B.now i = t) && decide (0 < t)))) (HH p L (bkF B)) :=
    eAnd3 (eCh rfl rfl (lt_int rfl) (eTlN rfl) (lt_int rfl)) fun h => eAnd2 (eEq (eTlI rfl rfl (of_decide_eq_true ((Bool.and_eq_true ..).mp h).2)) rfl) fun _ => eGt rfl rfl
  by_cases h : (B.com < i ∧ i < B.now.length) ∧ (tf B.now i = t ∧ 0 < t)
  · rw [decide_eq_true h.1.1, decide_eq_true h.1.2, decide_eq_true h.2.1, decide_eq_true h.2.2] at k9
    have e : max B.com i = i := Nat.max_eq_right (Nat.le_of_lt h.1.1)
    refine ⟨_, _, I.setC h.1.2, rfl, x0 rfl rfl (x0 t2 rfl (xA k8 (xA k9 (xI (tT rfl) rfl (xK (O := bkF B) rfl rfl rfl (Nat.lt_of_sub_eq_succ rfl) rfl) ?_))))⟩
    rw [e]
    exact xR (eEs (eM rfl (mL rfl) rfl (c55t I.gd (by rw [I.A.com]; exact h.1.1) (Nat.le_sub_one_of_lt h.1.2) (Nat.le_trans I.N.bc (Nat.le_of_lt h.1.1)) h.2.1 (Nat.ne_of_gt h.2.2))) rfl rfl rfl)
  · have e : ((decide (B.com < i) && decide (i < B.now.length)) && (decide (tf B.now i = t) && decide (0 < t))) = false := by
      rw [← Bool.decide_and, ← Bool.decide_and, ← Bool.decide_and]; exact decide_eq_false h
    rw [e] at k9
    refine ⟨L, B, I, rfl, x0 rfl rfl (x0 t2 rfl (xA k8 (xA k9 (x0 (tT rfl) rfl (xR (eEs (eM rfl (mL rfl) rfl (c55f I.gd (Nat.lt_trans hi (by decide)) ?_)) rfl rfl rfl))))))⟩
    rw [I.A.com]
    by_cases q1 : i ≤ B.com
    · exact .inl q1
    · by_cases q2 : t = 0
      · exact .inr (.inl q2)
      · by_cases q3 : i < B.now.length
        · exact .inr (.inr (.inr ⟨Nat.le_trans I.N.bc (Nat.le_of_lt (Nat.lt_of_not_le q1)), fun q4 => h ⟨⟨Nat.lt_of_not_le q1, q3⟩, q4, Nat.pos_of_ne_zero q2⟩⟩))
        · exact .inr (.inr (.inl (Nat.lt_of_lt_of_le I.last (Nat.le_of_not_lt q3))))
end Mini.L
namespace Mini.L
open Mini
variable {p : Sh} {L : Lg} {B : Bk} {H : MH} {d q i t k f l o lo lim m c a n cm x s w : Nat} {ls : List (List Nat)} {O : Flds} {T M : Nat → Nat} {E : List MV} {le : List Nat}
def FinC (ls : List (List Nat)) (p : Sh) (B : Bk) (y : RS MV) : Prop := ∃ L' B', Iv ls L' B' ∧ B'.most = B.most ∧ y = .ok (.bool true) (HH p L' (bkF B'))
theorem c76 (I : Iv ls L B) (hw : w = 4 ∨ w = 5) : FinC ls p B (callN P (d + 6) 76 [.obj (lx p), .obj 3, .int w, .int x] (HH p L (bkF B))) := by
  have h13 := I.l13
  obtain ⟨i, hi⟩ : ∃ i, i = x / 2 % (B.now.length + 2) := ⟨_, rfl⟩
  have hi2 : i < 1000 := Nat.lt_of_lt_of_le (hi ▸ Nat.mod_lt _ (Nat.succ_pos _)) (by lia)
  have fin : Fin ls p B (execSs P (callN P (d + 5)) (dropS 3 (bodyS P01.f76)) (l76 p B w x i .un .un .un) (HH p L (bkF B))) := by
    rcases hw with rfl | rfl
    · by_cases hx : x % 2 = 0
      · exact p76b I hi2 hx
      · exact p76c I hi2 hx
    · exact p76a I hi2
  obtain ⟨L', B', I', hm, e⟩ := fin
  exact ⟨L', B', I', hm, callAt rfl (runR rfl (xA (eK rfl rfl) (xA (eK rfl rfl) (xA ((eBM (eBD rfl rfl (by decide) (by decide)) (eBA (eTlN rfl) rfl) (Nat.succ_ne_zero _)).trans (by rw [← hi])) e))))⟩
theorem Iv.restore (I : Iv ls L B) (ho : B.out = none) (hle : le ∈ ls) (h1 : B.com < s) (h2 : s < le.length) :
    Iv ls { L with com := s, off := s + 1, ue := [], sn := some (s, tf le s) } { B with now := le.take (s + 1), base := s, com := s, kept := s, pend := true } := by
  have hl : (le.take (s + 1)).length = s + 1 := by rw [List.length_take, Nat.min_eq_left h2]
  have ht : tf (le.take (s + 1)) s = tf le s := tf_take (Nat.lt_succ_self s)
  refine ⟨I.F, ⟨rfl, ?_, rfl, I.A.app, I.A.mx, ?_⟩, ⟨I.S.b, I.S.t, I.S.st, I.S.sp⟩, Nat.le_trans I.N.ac (Nat.le_of_lt h1), Nat.le_refl _, ?_, Nat.le_refl _, ?_, I.N.dl, fun _ => ⟨rfl, Nat.lt_of_le_of_lt (Nat.zero_le _) h1⟩, fun h => ?_, fun _ _ => ?_, fun h => ?_, Ok.of hle, I.N.od⟩
  · show [] = es _ _ ((le.take (s + 1)).length - (s + 1))
    rw [hl, Nat.sub_self]; rfl
  · show some (s, tf le s) = some (s, tf (le.take (s + 1)) s)
    rw [ht]
  · show s < (le.take (s + 1)).length
    rw [hl]; exact Nat.lt_succ_self s
  · show s < (le.take (s + 1)).length
    rw [hl]; exact Nat.lt_succ_self s
  · exact h.elim (fun h => nomatch h) fun h => absurd ho h
  · have hb := Nat.lt_of_le_of_lt I.N.bc h1
    cases hp : B.pend with
    | true => exact Nat.lt_trans (I.N.ns hp ho) hb
    | false => exact (I.N.so (.inl hp)).1 ▸ hb
  · exact absurd (ho.symm.trans h) (fun q => nomatch q)
theorem c77 (I : Iv ls L B) (ho : B.out = none) (hle : le ∈ ls) (h2 : s < le.length) : FinC ls p B (callN P (d + 7) 77 [.obj (lx p), .obj 3, tl le, .int s] (HH p L (bkF B))) := by
  have h13 := I.l13
  have hl := (I.F.len le hle).2
  have hc := I.N.cl
  have kS : evalE P (callN P (d + 6)) (.new 3 (.cons (.var 3) (.cons (.idx (.var 2) (.var 3)) (.cons (.new 2 (.cons (.list (.cons (.int 1) .nil)) (.cons (.list .nil) (.cons (.list .nil) (.cons (.list .nil) (.cons .ff .nil)))))) (.cons .bnil .nil))))) [.val (.obj (lx p)), .val (.obj 3), .val (tl le), .val (.int s)] (HH p L (bkF B)) = .ok (snapE s (tf le s)) (HH p L (bkF B)) :=
    eNewR (eCons rfl (eCons (eTlI rfl rfl h2) (eCons (eNewR rfl rfl rfl (callAt rfl rfl)) (eCons rfl rfl)))) rfl rfl (callAt rfl rfl)
  by_cases h1 : s < B.com
  · exact ⟨L, B, I, rfl, callAt rfl (runR rfl (xIr (tLtT rfl (eK rfl rfl) h1) rfl (congrArg (SR.then · _) (cat (eX (eM rfl (mL rfl) (eCons kS rfl) (c40x (by rw [I.A.com]; exact h1) (by lia) (by rw [I.A.com]; lia)))) rfl))))⟩
  · by_cases h3 : B.com < s
    · exact ⟨_, _, I.restore ho hle h3 h2, rfl, callAt rfl (runR rfl (x0 (tLtF rfl (eK rfl rfl) (Nat.le_of_not_lt h1)) rfl (xI (tGtT rfl (eK rfl rfl) h3) rfl (xE (eM rfl (mL rfl) (eCons kS rfl) (c40 I.gd (by rw [I.A.com]; exact Nat.le_of_not_lt h1)))
        (xK (eTlU rfl (eBA rfl rfl) h2) rfl rfl (Nat.lt_of_sub_eq_succ rfl) (xK (O := bkF { B with now := le.take (s + 1) }) rfl rfl rfl (Nat.lt_of_sub_eq_succ rfl) (xK (O := bkF { B with now := le.take (s + 1), base := s }) rfl rfl rfl (Nat.lt_of_sub_eq_succ rfl) (xK (O := bkF { B with now := le.take (s + 1), base := s, com := s }) rfl rfl rfl (Nat.lt_of_sub_eq_succ rfl) (xK (O := bkF { B with now := le.take (s + 1), base := s, com := s, kept := s }) rfl rfl rfl (Nat.lt_of_sub_eq_succ rfl) rfl)))))) (xR rfl))))⟩
    · exact ⟨L, B, I, rfl, callAt rfl (runR rfl (x0 (tLtF rfl (eK rfl rfl) (Nat.le_of_not_lt h1)) rfl (x0 (tGtF rfl (eK rfl rfl) (Nat.le_of_not_lt h3)) rfl (xR rfl))))⟩
end Mini.L
namespace Mini.L
open Mini
variable {p : Sh} {L : Lg} {B : Bk} {H : MH} {d q i t k f l o lo lim m c a n cm x w b : Nat} {ls : List (List Nat)} {O : Flds} {T M : Nat → Nat} {E : List MV} {le : List Nat} {s : Bool}
theorem IB.tell (N : IB ls B) {z : Bool × Nat × Nat × Nat × Nat} (ho : B.out = some z) : IB ls { B with pend := false, out := none } :=
  { N with pk := fun h => (nomatch h), so := fun _ => N.so (.inr (by rw [ho]; exact fun h => (nomatch h))), ns := fun h => (nomatch h), ot := fun h => (nomatch h) }
theorem Iv.kept (I : Iv ls L B) (hp : B.pend = false) (ho : B.out = none) (h1 : B.kept < lo) (h2 : lo < B.now.length) (hd : B.disk.length = lo + 1) (ht : tf B.disk lo = tf B.now lo) : Iv ls { L with ue := L.ue.drop (lo + 1 - L.off), off := lo + 1 } { B with kept := lo } := by
  have hs := I.N.so (.inl hp)
  have hn : B.now.length - (B.kept + 1) - (lo + 1 - (B.kept + 1)) = B.now.length - (lo + 1) := Nat.sub_sub_sub_cancel_right (Nat.le_succ_of_le h1)
  refine ⟨I.F, ⟨rfl, ?_, I.A.com, I.A.app, I.A.mx, I.A.sn⟩, ⟨I.S.b, I.S.t, I.S.st, I.S.sp⟩, { I.N with bk := Nat.le_trans I.N.bk (Nat.le_of_lt h1), kl := h2, pk := fun h => absurd (hp.symm.trans h) (fun q => (nomatch q)), so := fun _ => ⟨hs.1, hd ▸ Nat.lt_succ_self lo, ?_, fun h => hd.trans h⟩, ot := fun h => absurd (ho.symm.trans h) (fun q => (nomatch q)) }⟩
  · show L.ue.drop _ = es _ (lo + 1) (B.now.length - (lo + 1))
    rw [I.A.ue, I.A.off, es_drop (Nat.sub_le_sub_right h2 _), hn, Nat.add_sub_cancel' (Nat.le_succ_of_le h1)]
  · exact I.F.ok I.N.od I.N.on lo (hd ▸ Nat.lt_succ_self lo) h2 ht
noncomputable def l75 (p : Sh) (s : Bool) (b lo t c : Nat) : Loc := [.val (.obj (lx p)), .val (.obj 3), .val (.bool s), .val (.int b), .val (.int lo), .val (.int t), .val (.int c)]
theorem p75b (I : Iv ls L { B with out := none }) (hp : B.pend = false) (hd : 0 < c → B.disk.length = lo + 1 ∧ tf B.disk lo = t) : ∃ L' B', Iv ls L' B' ∧ B'.most = B.most ∧ B'.out = none ∧
    execSs P (callN P (d + 3)) (dropS 2 (bodyS P01.f75)) (l75 p s b lo t c) (HH p L (bkF B)) = .next (l75 p s b lo t c) (HH p L' (bkF B')) := by
  have fin : ∀ {L'}, execSs P (callN P (d + 3)) (dropS 3 (bodyS P01.f75)) (l75 p s b lo t c) (HH p L' (bkF B)) = .next (l75 p s b lo t c) (HH p L' (bkF { B with out := none })) := fun {L'} => xK rfl rfl rfl (Nat.lt_of_sub_eq_succ rfl) rfl
  match c with
  | 0 => exact ⟨L, _, I, rfl, rfl, x0 rfl rfl fin⟩
  | c + 1 =>
    obtain ⟨hd, ht⟩ := hd (Nat.succ_pos _)
    have hof : L.off = B.kept + 1 := I.A.off
    have hue : L.ue = es (tf B.now) (B.kept + 1) (B.now.length - (B.kept + 1)) := I.A.ue
    have hkl : B.kept < B.now.length := I.N.kl
    have t1 : ∀ {L' : Lg}, evalT P (callN P (d + 3)) (.cmp (.key (.var 1) 68) (.cons .lt (.var 4) (.one .lt (.len (.key (.var 1) 65))))) (l75 p s b lo t (c + 1)) (HH p L' (bkF B)) = .ok (decide (B.kept < lo) && decide (lo < B.now.length)) (HH p L' (bkF B)) := fun {L'} =>
      tCh (eK rfl rfl) rfl (lt_int rfl) (eTlN (eK rfl rfl)) (lt_int rfl)
    have no : callN P (d + 2) 51 [.obj (ux p), .int lo, .int t] (HH p L (bkF B)) = .ok .none (HH p L (bkF B)) → ¬ (B.kept < lo ∧ lo < B.now.length) → execSs P (callN P (d + 3)) (dropS 2 (bodyS P01.f75)) (l75 p s b lo t (c + 1)) (HH p L (bkF B)) = .next (l75 p s b lo t (c + 1)) (HH p L (bkF { B with out := none })) := fun k h =>
      xI (tGtT rfl rfl (Nat.succ_pos c)) rfl (xE (eM rfl (mL rfl) rfl (c57 k)) (x0 (tA (tsX t1 (by rw [← Bool.decide_and]; exact decide_eq_false h))) rfl rfl)) fin
    by_cases h1 : B.kept < lo
    · by_cases h2 : lo < B.now.length
      · have hu : L.ue[lo - L.off]? = some (en (tf B.now lo) lo) := by rw [hue, hof, es_get (Nat.sub_lt_sub_right h1 h2), Nat.add_sub_cancel' h1]
        have t2 : ∀ {L' : Lg}, evalT P (callN P (d + 3)) (.cmp (.key (.var 1) 68) (.cons .lt (.var 4) (.one .lt (.len (.key (.var 1) 65))))) (l75 p s b lo t (c + 1)) (HH p L' (bkF B)) = .ok true (HH p L' (bkF B)) := t1.trans (by rw [decide_eq_true h1, decide_eq_true h2]; rfl)
        by_cases h3 : tf B.now lo = t
        · have I' := I.kept hp rfl h1 h2 hd (ht.trans h3.symm)
          rw [h3] at hu
          exact ⟨_, _, I', rfl, rfl, xI (tGtT rfl rfl (Nat.succ_pos c)) rfl (xE (eM rfl (mL rfl) rfl (c57 (c51d (hof ▸ h1) hu))) (xI (tA (tsC t2 rfl (tsC (tEqT (eTlI (eK rfl rfl) rfl h2) rfl h3) rfl tsN))) rfl (xK rfl rfl rfl (Nat.lt_of_sub_eq_succ rfl) rfl) rfl)) (xK (O := bkF { B with kept := lo }) rfl rfl rfl (Nat.lt_of_sub_eq_succ rfl) rfl)⟩
        · exact ⟨L, _, I, rfl, rfl, xI (tGtT rfl rfl (Nat.succ_pos c)) rfl (xE (eM rfl (mL rfl) rfl (c57 (c51c (hof ▸ h1) hu h3))) (x0 (tA (tsC t2 rfl (tsX (tEqF (eTlI (eK rfl rfl) rfl h2) rfl h3) rfl))) rfl rfl)) fin⟩
      · exact ⟨L, _, I, rfl, rfl, no (c51b (by rw [hof, hue, es_len, Nat.add_sub_cancel' hkl]; exact Nat.le_of_not_lt h2)) fun h => h2 h.2⟩
    · exact ⟨L, _, I, rfl, rfl, no (c51a (by rw [hof]; exact Nat.lt_succ_of_le (Nat.le_of_not_lt h1))) fun h => h1 h.1⟩
theorem c75 (I : Iv ls L B) {z : Bool × Nat × Nat × Nat × Nat} (ho : B.out = some z) : ∃ L' B', Iv ls L' B' ∧ B'.most = B.most ∧ B'.out = none ∧ callN P (d + 4) 75 [.obj (lx p), .obj 3] (HH p L (bkF B)) = .ok .none (HH p L' (bkF B')) := by
  obtain ⟨s, b, lo, t, c⟩ := z
  obtain ⟨e1, e2, e3⟩ := I.N.ot ho
  have N1 := I.N.tell ho
  have ke : evalE P (callN P (d + 3)) (.key (.var 1) 72) [.val (.obj (lx p)), .val (.obj 3), .un, .un, .un, .un, .un] (HH p L (bkF B)) = .ok (.tup [.bool s, .int b, .int lo, .int t, .int c]) (HH p L (bkF B)) := (eK rfl rfl).trans (by rw [ho]; rfl)
  rcases I.sn with ⟨hp, hs, hb⟩ | ⟨hp, hs⟩
  · obtain rfl : s = true := e1.trans hp
    obtain rfl : b = B.base := e2 rfl
    obtain ⟨L', B', I', hm, h0, k⟩ := p75b (d := d) (p := p) (L := { L with sn := none }) (B := { B with pend := false }) (s := true) (b := B.base) (t := t) (lo := lo) (c := c) ⟨I.F, ⟨I.A.off, I.A.ue, I.A.com, I.A.app, I.A.mx, rfl⟩, ⟨I.S.b, I.S.t, I.S.st, I.S.sp⟩, N1⟩ rfl e3
    exact ⟨L', B', I', hm, h0, callAt rfl (runN rfl (xU ke rfl (xI (tT rfl) rfl (xE (eM rfl (mL rfl) rfl (c58a hs)) (xK (p := p) (O := bkF B) rfl rfl rfl (Nat.lt_of_sub_eq_succ rfl) rfl)) k)))⟩
  · obtain rfl : s = false := e1.trans hp
    have I1 : Iv ls L { B with out := none } := ⟨I.F, ⟨I.A.off, I.A.ue, I.A.com, I.A.app, I.A.mx, I.A.sn⟩, ⟨I.S.b, I.S.t, I.S.st, I.S.sp⟩, { I.N with so := fun _ => I.N.so (.inl hp), ns := fun h => absurd (hp.symm.trans h) (fun q => (nomatch q)), ot := fun h => (nomatch h) }⟩
    obtain ⟨L', B', I', hm, h0, k⟩ := p75b (d := d) (p := p) (s := false) (b := b) (t := t) (lo := lo) (c := c) I1 hp e3
    exact ⟨L', B', I', hm, h0, callAt rfl (runN rfl (xU ke rfl (x0 (tT rfl) rfl k)))⟩
end Mini.L
namespace Mini.L
open Mini
variable {p : Sh} {L : Lg} {B : Bk} {H : MH} {d k m n : Nat} {ls : List (List Nat)} {O : Flds} {a b : List Nat}
theorem tl_neg (h : 0 < a.length) : idxO (tl a) (.int (-((1 : Nat) : Int))) = some (.int (tf a (a.length - 1))) := by
  rcases List.eq_nil_or_concat a with rfl | ⟨ys, j, rfl⟩
  · exact absurd h (Nat.lt_irrefl 0)
  · have e : (ys ++ [j]).length - 1 = ys.length := by rw [List.length_append]; rfl
    rw [List.concat_eq_append] at *
    rw [tl_last, e, tf_app2 (Nat.le_refl _), Nat.sub_self]; rfl
theorem disk_now (h1 : k < a.length) (h2 : k < b.length) (h : ∀ j, j ≤ k → tf a j = tf b j) : a.take (k + 1) ++ b.drop (k + 1) = b := by
  have hl : (a.take (k + 1)).length = k + 1 := by rw [List.length_take, Nat.min_eq_left h1]
  refine tf_ext (by rw [List.length_append, hl, List.length_drop]; exact Nat.add_sub_cancel' h2) fun i _ => ?_
  by_cases hi : i < k + 1
  · rw [tf_app (hl.symm ▸ hi), tf_take hi]; exact h i (Nat.le_of_lt_succ hi)
  · have hi := Nat.le_of_not_lt hi
    rw [tf_app2 (hl.symm ▸ hi), tf_drop, hl, Nat.add_sub_cancel' hi]
noncomputable abbrev outB (B : Bk) (c : Nat) : Option (Bool × Nat × Nat × Nat × Nat) := some (B.pend, B.base, B.now.length - 1, tf B.now (B.now.length - 1), c)
theorem ot0 {x s : Bool} {b lo t c b' lo' t' : Nat} {C : Prop} (h : some (x, b', lo', t', 0) = some (s, b, lo, t, c)) : s = x ∧ (s = true → b = b') ∧ (0 < c → C) := by
  cases h; exact ⟨rfl, fun _ => rfl, fun h => absurd h (Nat.lt_irrefl 0)⟩
theorem Iv.out0 (I : Iv ls L B) (hp : B.pend = false) : Iv ls L { B with out := outB B 0 } :=
  ⟨I.F, ⟨I.A.off, I.A.ue, I.A.com, I.A.app, I.A.mx, I.A.sn⟩, ⟨I.S.b, I.S.t, I.S.st, I.S.sp⟩, { I.N with so := fun _ => I.N.so (.inl hp), ns := fun _ h => (nomatch h), ot := ot0 }⟩
theorem Iv.snap (I : Iv ls L B) (hp : B.pend = true) : Iv ls { L with sp := snapE B.base (tf B.now B.base), cs := conf1, b := B.base, t := tf B.now B.base, st := [] } { B with disk := B.now.take (B.base + 1), db := B.base, out := outB B 0 } := by
  have hk := (I.N.pk hp).1
  have hb : B.base < B.now.length := Nat.lt_of_le_of_lt I.N.bk I.N.kl
  have hl : (B.now.take (B.base + 1)).length = B.base + 1 := by rw [List.length_take, Nat.min_eq_left hb]
  have hlt : B.base < (B.now.take (B.base + 1)).length := hl.symm ▸ Nat.lt_succ_self _
  refine ⟨I.F, ⟨I.A.off, I.A.ue, I.A.com, I.A.app, I.A.mx, I.A.sn⟩, ⟨rfl, (tf_take (Nat.lt_succ_self _)).symm, ?_, ⟨_, _, _, rfl⟩⟩, { I.N with dl := hlt, so := fun _ => ⟨rfl, ?_, fun j hj => tf_take (Nat.lt_succ_of_le (hk ▸ hj)), fun h => hl.trans (by rw [← h, hk])⟩, ns := fun _ h => (nomatch h), ot := ot0, od := I.N.on.take }⟩
  · show [] = es _ (B.base + 1) ((B.now.take (B.base + 1)).length - (B.base + 1))
    rw [hl, Nat.sub_self]; rfl
  · show B.kept < (B.now.take (B.base + 1)).length
    rw [hk]; exact hlt
noncomputable def l74 (p : Sh) (B : Bk) : Loc := [.val (.obj (lx p)), .val (.obj 0), .val (.obj 3), .val (.list (es (tf B.now) (B.kept + 1) (B.now.length - (B.kept + 1))))]
theorem p74b (I : Iv ls L { B with out := outB B 0 }) : ∃ L' B', Iv ls L' B' ∧ B'.most = B.most ∧
    execSs P (callN P (d + 3)) (dropS 2 (bodyS P01.f74)) (l74 p B) (HH p L (bkF B)) = .next (l74 p B) (HH p L' (bkF B')) := by
  obtain ⟨h1, h2, h3, h4⟩ := I.N.so (.inr fun h => (nomatch h))
  have h1 : B.db = B.base := h1
  have hk : B.base ≤ B.kept := I.N.bk
  have hkl : B.kept < B.now.length := I.N.kl
  have h13 : B.now.length ≤ 13 := I.l13
  have d13 : B.disk.length ≤ 13 := I.F.okl I.N.od
  have hN : 0 < B.now.length := I.pos
  by_cases hn : B.now.length - (B.kept + 1) = 0
  · have k19 : callN P (d + 3) 19 [.obj (sx p), .list (es (tf B.now) (B.kept + 1) (B.now.length - (B.kept + 1)))] (HH p L (bkF B)) = .ok .none (HH p L (bkF B)) := by rw [hn]; exact c19e
    refine ⟨L, _, I, rfl, xE (eM rfl (mS (p := p) rfl) (eCons rfl rfl) k19) (x0 (tGtF (esN rfl) rfl (Nat.le_of_eq hn)) rfl (xK (O := bkF B) (eTup (eCons (eM rfl (mL rfl) rfl I.c43) (eCons (eK rfl rfl) (eCons (eBS (eTlN (eK rfl rfl)) rfl hN) (eCons (eIx (eK rfl rfl) rfl (tl_neg hN)) (eCons (esN rfl) rfl)))))) rfl rfl (Nat.lt_of_sub_eq_succ rfl) ?_))⟩
    rw [hn]; rfl
  · have hn := Nat.pos_of_ne_zero hn
    have hst : L.st = es (tf B.disk) (B.db + 1) (B.disk.length - (B.db + 1)) := I.S.st
    have hsl : L.st.length = B.disk.length - (B.db + 1) := by rw [hst, es_len]
    have hb : L.b = B.db := I.S.b
    have ht : L.t = tf B.disk B.db := I.S.t
    have dn := disk_now h2 hkl h3
    have e : L.st.take (B.kept + 1 - (L.b + 1)) ++ es (tf B.now) (B.kept + 1) (B.now.length - (B.kept + 1)) = es (tf B.now) (B.db + 1) (B.now.length - (B.db + 1)) := by
      have e1 : B.kept + 1 - (B.db + 1) ≤ B.disk.length - (B.db + 1) := Nat.sub_le_sub_right h2 _
      have e2 : B.db + 1 + (B.kept + 1 - (B.db + 1)) = B.kept + 1 := Nat.add_sub_cancel' (Nat.succ_le_succ (h1 ▸ hk))
      rw [hb, hst, es_take e1, es_congr (T' := tf B.now) (fun j _ hj => h3 j (Nat.le_of_lt_succ (Nat.lt_of_lt_of_eq hj e2)))]
      rw [show B.now.length - (B.db + 1) = (B.kept + 1 - (B.db + 1)) + (B.now.length - (B.kept + 1)) by lia, es_add, e2]
    have I' : Iv ls { L with st := L.st.take (B.kept + 1 - (L.b + 1)) ++ es (tf B.now) (B.kept + 1) (B.now.length - (B.kept + 1)) } { B with disk := B.now, out := outB B (B.now.length - (B.kept + 1)) } :=
      ⟨I.F, ⟨I.A.off, I.A.ue, I.A.com, I.A.app, I.A.mx, I.A.sn⟩, ⟨hb, ht.trans (h3 _ (h1 ▸ hk)), e, I.S.sp⟩, { I.N with dl := (by show B.db < B.now.length; rw [h1]; exact Nat.lt_of_le_of_lt hk hkl), so := fun _ => ⟨h1, hkl, fun _ _ => rfl, fun _ => rfl⟩, ns := fun _ h => (nomatch h), ot := fun h => by cases h; exact ⟨rfl, fun _ => rfl, fun _ => ⟨(Nat.sub_add_cancel hN).symm, rfl⟩⟩, od := I.N.on }⟩
    have k19 := c19 (p := p) (L := L) (O := bkF B) (d := d + 1) (E := es (tf B.now) (B.kept + 1) (B.now.length - (B.kept + 1))) (a := B.kept + 1) es_len hn (by lia) (fun j hj => es_ixd hj) (by rw [hb, h1]; exact Nat.lt_succ_of_le hk) (by rw [hb, hsl]; lia) (by rw [hsl]; lia)
    exact ⟨_, _, I', rfl, xE (eM rfl (mS (p := p) rfl) (eCons rfl rfl) k19) (xI (tGtT (esN rfl) rfl hn) rfl (xK (O := bkF B) (eTlA (eTlU (eK rfl rfl) (eBA (eK rfl rfl) rfl) h2) (eTlL (eK rfl rfl) (eBA (eK rfl rfl) rfl) hkl) (by rw [← List.length_append, dn]; lia)) rfl rfl (Nat.lt_of_sub_eq_succ rfl) (by rw [dn]; rfl))
      (xK (O := bkF { B with disk := B.now }) (eTup (eCons (eM rfl (mL rfl) rfl I'.c43) (eCons (eK rfl rfl) (eCons (eBS (eTlN (eK rfl rfl)) rfl hN) (eCons (eIx (eK rfl rfl) rfl (tl_neg hN)) (eCons (esN rfl) rfl)))))) rfl rfl (Nat.lt_of_sub_eq_succ rfl) rfl))⟩
theorem c74 (I : Iv ls L B) (ho : B.out = none) : ∃ L' B', Iv ls L' B' ∧ B'.most = B.most ∧ callN P (d + 4) 74 [.obj (lx p), .obj 0, .obj 3] (HH p L (bkF B)) = .ok .none (HH p L' (bkF B')) := by
  rcases I.sn with ⟨hp, hs, hb⟩ | ⟨hp, hs⟩
  · have I1 := I.snap hp
    have hlt := I.N.ns hp ho
    obtain ⟨L', B', I', hm, k⟩ := p74b (d := d) (p := p) (B := { B with disk := B.now.take (B.base + 1), db := B.base }) I1
    exact ⟨L', B', I', hm, callAt rfl (runN rfl (xA (eM rfl (mL rfl) rfl I.c42) (xI (tT (eM rfl (mL rfl) rfl (I.c43.trans (by rw [hp])))) rfl (xE (eM rfl (mS (p := p) rfl) (eCons (eM rfl (mL rfl) rfl (c62 hs)) rfl) (c49 I.S.sp hlt (by rw [I.S.b]; exact Nat.le_of_lt hlt)))
      (xK (O := bkF B) (eTlU (eK rfl rfl) (eBA (eK rfl rfl) rfl) (Nat.lt_of_le_of_lt I.N.bk I.N.kl)) rfl rfl (Nat.lt_of_sub_eq_succ rfl) (xK (O := bkF { B with disk := B.now.take (B.base + 1) }) (eK rfl rfl) rfl rfl (Nat.lt_of_sub_eq_succ rfl) rfl))) k)))⟩
  · obtain ⟨L', B', I', hm, k⟩ := p74b (d := d) (p := p) (I.out0 hp)
    exact ⟨L', B', I', hm, callAt rfl (runN rfl (xA (eM rfl (mL rfl) rfl I.c42) (x0 (tT (eM rfl (mL rfl) rfl (I.c43.trans (by rw [hp])))) rfl k)))⟩
end Mini.L
namespace Mini.L
open Mini
variable {p : Sh} {L : Lg} {B : Bk} {H : MH} {d k m n b x i : Nat} {ls : List (List Nat)} {O : Flds} {le : List Nat}
theorem Iv.put (I : Iv ls L B) (hle : le ∈ ls) (h1 : B.base ≤ b) (h2 : b < B.now.length) (h3 : tf B.now b = tf le b) (hm : 1 ≤ m) (he : b + 1 + m ≤ le.length) (hc : B.com ≤ b) :
    Iv ls (L.put (tf B.now) (tf le) (B.kept + 1) (b + 1) m) { B with now := le.take (b + 1 + m), kept := min B.kept b } := by
  have hl : (le.take (b + 1 + m)).length = b + 1 + m := by rw [List.length_take, Nat.min_eq_left he]
  have lm : ∀ {j}, j ≤ b → tf B.now j = tf le j := fun {j} hj => I.F.ok I.N.on (Ok.self hle) b h2 (Nat.lt_of_lt_of_le (Nat.lt_of_lt_of_le (Nat.lt_succ_self b) (Nat.le_add_right ..)) he) h3 j hj
  have hb : b < b + 1 + m := Nat.lt_of_lt_of_le (Nat.lt_succ_self b) (Nat.le_add_right ..)
  have hmn : min B.kept b ≤ b := Nat.min_le_right ..
  have e : min (B.kept + 1) (b + 1) = min B.kept b + 1 := Nat.succ_min_succ ..
  have hlt : min B.kept b < (le.take (b + 1 + m)).length := hl.symm ▸ Nat.lt_of_le_of_lt hmn hb
  refine ⟨I.F, ⟨e, ?_, I.A.com, I.A.app, I.A.mx, I.A.sn.trans ?_⟩, ⟨I.S.b, I.S.t, I.S.st, I.S.sp⟩, { I.N with cl := ?_, bk := Nat.le_min.mpr ⟨I.N.bk, h1⟩, kl := hlt, pk := fun h => ⟨?_, (I.N.pk h).2⟩, so := fun h => ?_, on := Ok.of hle }⟩
  · show es _ (min (B.kept + 1) (b + 1)) (b + 1 + m - min (B.kept + 1) (b + 1)) = es _ (min B.kept b + 1) ((le.take (b + 1 + m)).length - (min B.kept b + 1))
    rw [e, hl]
    refine es_congr fun j _ hj => ?_
    rw [Nat.add_sub_cancel' (Nat.succ_le_of_lt (Nat.lt_of_le_of_lt hmn hb))] at hj
    rw [tf_take hj]
    unfold mix
    split
    · rename_i q; exact lm (Nat.le_of_lt_succ q)
    · rfl
  · cases hp : B.pend with
    | false => rfl
    | true =>
      show some (B.base, tf B.now B.base) = some (B.base, tf (le.take (b + 1 + m)) B.base)
      rw [tf_take (Nat.lt_of_le_of_lt h1 hb), lm h1]
  · show B.com < (le.take (b + 1 + m)).length
    rw [hl]; exact Nat.lt_of_le_of_lt hc hb
  · show min B.kept b = B.base
    rw [(I.N.pk h).1, Nat.min_eq_left h1]
  · obtain ⟨g1, g2, g3, g4⟩ := I.N.so h
    refine ⟨g1, Nat.lt_of_le_of_lt (Nat.min_le_left ..) g2, fun j hj => ?_, fun q => ?_⟩
    · rw [tf_take (Nat.lt_of_le_of_lt (Nat.le_trans hj hmn) hb), g3 j (Nat.le_trans hj (Nat.min_le_left ..)), lm (Nat.le_trans hj hmn)]
    · have q : min B.kept b + 1 = (le.take (b + 1 + m)).length := q
      rw [hl] at q
      exact absurd q (Nat.ne_of_lt (Nat.lt_of_le_of_lt (Nat.succ_le_succ hmn) (Nat.lt_add_of_pos_right hm)))
theorem put_now (I : Iv ls L B) (hle : le ∈ ls) (h2 : b < B.now.length) (h3 : tf B.now b = tf le b) (hm : 1 ≤ m) (he : b + 1 + m ≤ le.length) : B.now.take (b + 1) ++ (le.take (b + 1 + m)).drop (b + 1) = le.take (b + 1 + m) :=
  I.F.join I.N.on hle h2 (Nat.lt_of_lt_of_le (Nat.lt_succ_self b) (Nat.le_add_right ..)) he h3
theorem Iv.leT (I : Iv ls L B) (h : le ∈ ls) : ∀ j, tf le j < 100 := fun j => Nat.lt_of_le_of_lt (I.F.tb le h j) (by decide)
theorem xLr {P : Prg} {cf : Nat → List MV → MH → RS MV} {t : MT} {aa bb r : MSs} {l : Loc} {H H₁ H₂ : MH} {v : MV} {c : Bool} (h : evalT P cf t l H = .ok c H₁) (hc : c = false) (k : execSs P cf bb l H₁ = .ret v H₂) : execSs P cf (.cons (.ife t aa bb) r) l H = .ret v H₂ := congrArg (SR.then · _) (ifF h hc k)
noncomputable def l73 (p : Sh) (B : Bk) (le : List Nat) (x b m : Nat) (w g : LV) : Loc := [.val (.obj (lx p)), .val (.obj 3), .val (tl le), .val (.int x), .val (tl B.now), .val (.int ((B.now.length - 1 : Nat) : Int)), .val (.int b), .val (.list (es (tf le) (b + 1) m)), w, g]
theorem p73 (I : Iv ls L B) (hle : le ∈ ls) (hm : m = 0 ∨ b + 1 + m ≤ le.length) (hb : b < 1000) : Fin ls p B (execSs P (callN P (d + 3)) (dropS 5 (bodyS P01.f73)) (l73 p B le x b m (.val (.int ((B.now.length - 1 : Nat) : Int))) .un) (HH p L (bkF B))) := by
  have h13 := I.l13
  have l13 := (I.F.len le hle).2
  have hcl := I.N.cl
  match m with
  | 0 => exact ⟨L, B, I, rfl, x0 rfl rfl (xTn (xA (eM rfl (mL rfl) (eCons rfl rfl) (c37e I.gd)) rfl) (xR (eEi rfl rfl)))⟩
  | m + 1 =>
    have he := hm.resolve_left (Nat.succ_ne_zero m)
    have hbl : b < le.length := Nat.lt_of_lt_of_le (Nat.lt_of_lt_of_le (Nat.lt_succ_self b) (Nat.le_add_right ..)) he
    by_cases h1 : b < B.com
    · exact ⟨L, B, I, rfl, xI (tGtT (esN rfl) rfl (Nat.succ_pos m)) rfl (xI (tLtT rfl (eK rfl rfl) h1) rfl (xA rfl rfl) rfl) (xTcn (aX (eM rfl (mL rfl) (eCons rfl rfl) (c37x (by rw [I.A.com]; exact h1) hb (by rw [I.A.com]; lia)))) rfl (xR (eEi rfl rfl)))⟩
    · have h1 := Nat.le_of_not_lt h1
      by_cases h2 : B.now.length - 1 < b
      · exact ⟨L, B, I, rfl, xI (tGtT (esN rfl) rfl (Nat.succ_pos m)) rfl (xL (tLtF rfl (eK rfl rfl) h1) rfl (xI (tGtT rfl rfl h2) rfl (xA rfl rfl) rfl) rfl) (xTcn (aX (eM rfl (mL rfl) (eCons rfl rfl) (c37y I.gd (by rw [I.A.com]; exact h1) h2 hb))) rfl (xR (eEi rfl rfl)))⟩
      · have h2 := Nat.le_of_not_lt h2
        have h2' := Nat.lt_of_le_of_lt h2 I.last
        have en1 : evalE P (callN P (d + 3)) (.idx (.var 4) (.var 6)) (l73 p B le x b (m + 1) (.val (.int ((B.now.length - 1 : Nat) : Int))) .un) (HH p L (bkF B)) = .ok (.int (tf B.now b)) (HH p L (bkF B)) := eTlI rfl rfl h2'
        by_cases h3 : tf B.now b = tf le b
        · have k37 := c37 (p := p) (O := bkF { B with now := le.take (b + 1 + (m + 1)), kept := min B.kept b }) (d := d) (M := tf le) (c := b + 1) (m := m + 1) I.gd (Nat.succ_pos m) (Nat.lt_succ_of_le (Nat.le_trans I.N.bc h1)) (by rw [I.e1]; exact h2') (by lia) (fun i _ _ => I.leT hle i) (by rw [I.A.com]; exact Nat.lt_succ_of_le h1)
          have e : b + 1 + (m + 1) - 1 = b + (m + 1) := by rw [Nat.add_right_comm, Nat.add_sub_cancel]
          have e2 : b + (m + 1) + 1 = b + 1 + (m + 1) := Nat.add_right_comm ..
          have pn := put_now I hle h2' h3 (Nat.succ_pos m) he
          rw [e] at k37
          have kn : evalE P (callN P (d + 3)) (.bin .add (.sliceU (.var 4) (.bin .add (.var 6) (.int 1))) (.sliceLU (.var 2) (.bin .add (.var 6) (.int 1)) (.bin .add (.var 8) (.int 1)))) (l73 p B le x b (m + 1) (.val (.int ((b + (m + 1) : Nat) : Int))) .un) (HH p L (bkF B)) = .ok (tl (le.take (b + 1 + (m + 1)))) (HH p L (bkF B)) := by
            rw [← pn]
            exact eTlA (eTlU rfl (eBA rfl rfl) h2') (eTlLU rfl (eBA rfl rfl) (eBAe rfl rfl e2) (Nat.le_add_right ..) he) (by rw [← List.length_append, pn, List.length_take]; lia)
          exact ⟨_, _, I.put hle (Nat.le_trans I.N.bc h1) h2' h3 (Nat.succ_pos m) he h1, rfl, xI (l₂ := l73 p B le x b (m + 1) (.val (.int ((b + (m + 1) : Nat) : Int))) .un) (tGtT (esN rfl) rfl (Nat.succ_pos m)) rfl (xL (tLtF rfl (eK rfl rfl) h1) rfl (xL (tGtF rfl rfl h2) rfl (xL (tC en1 (eTlI rfl rfl hbl) (ne_int (ez h3))) rfl (xA (eBA rfl (esN rfl)) (xK (p := p) (O := bkF B) kn rfl rfl (Nat.lt_of_sub_eq_succ rfl) (xK (p := p) (O := bkF { B with now := le.take (b + 1 + (m + 1)) }) (eMinV (eK rfl rfl) rfl minN) rfl rfl (Nat.lt_of_sub_eq_succ rfl) rfl))) rfl) rfl) rfl) (xTn (xA (eM rfl (mL rfl) (eCons rfl rfl) k37) rfl) (xR (eEi rfl rfl)))⟩
        · exact ⟨L, B, I, rfl, xIr (tGtT (esN rfl) rfl (Nat.succ_pos m)) rfl (xLr (tLtF rfl (eK rfl rfl) h1) rfl (xLr (tGtF rfl rfl h2) rfl (xIr (tC en1 (eTlI rfl rfl hbl) (ne_int (ef h3))) rfl (xR rfl))))⟩
end Mini.L
namespace Mini.L
open Mini
variable {p : Sh} {L : Lg} {B : Bk} {H : MH} {d k m n b x i t cm c : Nat} {ls : List (List Nat)} {O : Flds} {le : List Nat} {E : List MV} {hol : Bool}
theorem c73 (I : Iv ls L B) (hle : le ∈ ls) : FinC ls p B (callN P (d + 4) 73 [.obj (lx p), .obj 3, tl le, .int x] (HH p L (bkF B))) := by
  have h13 := I.l13
  have l13 := (I.F.len le hle).2
  obtain ⟨b, hb⟩ : ∃ b, b = x / 4 % (B.now.length - 1 + 3) := ⟨_, rfl⟩
  have hb2 : b < 900 := Nat.lt_of_lt_of_le (hb ▸ Nat.mod_lt _ (Nat.succ_pos _)) (by lia)
  obtain ⟨w, hw⟩ : ∃ w, w = x / 40 % 3 := ⟨_, rfl⟩
  have hw2 : w < 3 := hw ▸ Nat.mod_lt _ (by decide)
  have k64 := c64 (d := d + 1) (H := HH p L (bkF B)) (ts := le) (m := b + 1) (n := b + 2 + w) (by lia) (by lia) (by lia) (fun j _ => Nat.lt_trans (I.leT hle j) (by decide))
  obtain ⟨L', B', I', hm, e⟩ := p73 (d := d) (p := p) (x := x) (b := b) (m := min (b + 2 + w) le.length - (b + 1)) I hle (by
    have : min (b + 2 + w) le.length ≤ le.length := Nat.min_le_right ..
    generalize min (b + 2 + w) le.length = z at this
    lia) (Nat.lt_trans hb2 (by decide))
  exact ⟨L', B', I', hm, callAt rfl (runR rfl (xA (eK rfl rfl) (xA (eBS (eTlN rfl) rfl I.pos) (xA ((eBM (eBD rfl rfl (by decide) (by decide)) (eBA rfl rfl) (Nat.succ_ne_zero _)).trans (by rw [← hb])) (xA (eCl (eCons rfl (eCons (eBA rfl rfl) (eCons (eBA (eBA rfl rfl) ((eBM (eBD rfl rfl (by decide) (by decide)) rfl (by decide)).trans (by rw [← hw]))) rfl))) k64) (xA rfl e))))))⟩
noncomputable def l72 (p : Sh) (B : Bk) (le : List Nat) (x b : Nat) (E : List MV) (t cm m : Nat) (hol : Bool) (w a g : LV) : Loc := [.val (.obj (lx p)), .val (.obj 3), .val (tl le), .val (.int x), .val (tl B.now), .val (.int ((B.now.length - 1 : Nat) : Int)), .val (.int b), .val (.list E), .val (.int t), .val (.int cm), .val (.int ((b + m : Nat) : Int)), .val (.bool hol), w, a, g, .un]
theorem p72x (I : Iv ls L B) (hb2 : b ≤ B.now.length) (hk : ¬ ((B.base ≤ b ∧ b ≤ B.now.length - 1) ∧ tf B.now b = t)) : Fin ls p B (execSs P (callN P (d + 6)) (dropS 11 (bodyS P01.f72)) (l72 p B le x b E t cm m hol (.val .none) .un .un) (HH p L (bkF B))) := by
  have h13 := I.l13
  have t1 : evalT P (callN P (d + 6)) (.cmp (.key (.var 1) 66) (.cons .le (.var 6) (.one .le (.var 5)))) (l72 p B le x b E t cm m hol (.val .none) .un .un) (HH p L (bkF B)) = .ok (decide (B.base ≤ b) && decide (b ≤ B.now.length - 1)) (HH p L (bkF B)) := tCh (eK rfl rfl) rfl (le_int rfl) rfl (le_int rfl)
  have ts : ∀ r, evalT P (callN P (d + 6)) (.and (.cons (.cmp (.key (.var 1) 66) (.cons .le (.var 6) (.one .le (.var 5)))) (.cons (.cmp (.idx (.var 4) (.var 6)) (.one .eq (.var 8))) r))) (l72 p B le x b E t cm m hol (.val .none) .un .un) (HH p L (bkF B)) = .ok false (HH p L (bkF B)) := by
    intro r
    by_cases h : B.base ≤ b ∧ b ≤ B.now.length - 1
    · exact tA (tsC t1 (by rw [decide_eq_true h.1, decide_eq_true h.2]; rfl) (tsX (tEqF (eTlI rfl rfl (Nat.lt_of_le_of_lt h.2 I.last)) rfl fun q => hk ⟨h, q⟩) rfl))
    · exact tA (tsX t1 (by rw [← Bool.decide_and]; exact decide_eq_false h))
  have k36 : callN P (d + 6) 36 [.obj (lx p), .int b, .int t, .int cm, .list E] (HH p L (bkF B)) = .ok .none (HH p L (bkF B)) := by
    by_cases h : b < B.base
    · exact c36x (d := d + 1) I.gd h
    · refine c36n (d := d + 1) I.gd (Nat.le_of_not_lt h) (by lia) ?_
      by_cases q : B.now.length - 1 < b
      · exact .inl q
      · exact .inr fun q2 => hk ⟨⟨Nat.le_of_not_lt h, Nat.le_of_not_lt q⟩, q2⟩
  exact ⟨L, B, I, rfl, xL (ts _) rfl (x0 (ts _) rfl rfl) (xTn (xA (eM rfl (mL rfl) rfl k36) rfl) (xR (eEs rfl rfl rfl rfl)))⟩
theorem p72h (I : Iv ls L B) (h1 : B.base ≤ b) (h2 : b ≤ B.now.length - 1) (h3 : tf B.now b = t) (hn : n < 100) (hE : E.length = n + 1) (hx : ∀ j, j < n → Ixd E j (b + 1 + j)) (hb : Ixd E n (b + 1 + n + 1)) : Fin ls p B (execSs P (callN P (d + 6)) (dropS 11 (bodyS P01.f72)) (l72 p B le x b E t cm m true (.val .none) .un .un) (HH p L (bkF B))) :=
  ⟨L, B, I, rfl, xI (tA (tsC (tCh (eK rfl rfl) rfl (le_int (decide_eq_true h1)) rfl (le_int (decide_eq_true h2))) rfl (tsC (tEqT (eTlI rfl rfl (Nat.lt_of_le_of_lt h2 I.last)) rfl h3) rfl (tsC (tT rfl) rfl tsN)))) rfl (xA rfl rfl) (xTcn (aX (eM rfl (mL rfl) rfl (c36h I.gd h1 h2 h3 hn hE hx hb))) rfl (xR (eEi rfl rfl)))⟩
end Mini.L
namespace Mini.L
open Mini
variable {p : Sh} {L : Lg} {B : Bk} {H : MH} {d k m n b x i t cm c : Nat} {ls : List (List Nat)} {O : Flds} {le : List Nat} {E : List MV} {hol : Bool}
noncomputable def in72 : MSs := match dropS 11 (bodyS P01.f72) with | .cons (.ife _ _ (.cons (.ife _ b _) _)) _ => b | _ => .nil
noncomputable def apL (B : Bk) (le : List Nat) (b m : Nat) : List Nat := (List.range' (b + 1) m).filter (apt (tf B.now) (tf le) 0 (B.now.length - 1))
theorem p72j (I : Iv ls L B) (hm : b + 1 + m ≤ le.length) (hz : le.length ≤ 13) : evalE P (callN P (d + 6)) (.compIf (.var 15) 15 (.range2 (.bin .add (.var 6) (.int 1)) (.bin .add (.var 10) (.int 1))) (.or (.cons (.cmp (.var 15) (.one .gt (.var 5))) (.cons (.cmp (.idx (.var 4) (.var 15)) (.one .ne (.idx (.var 2) (.var 15)))) .nil)))) (l72 p B le x b E t cm m hol (.val (.int ((b + m : Nat) : Int))) .un .un) (HH p L (bkF B)) =
    .ok (tl (apL B le b m)) (HH p L (bkF B)) := by
  have hr : b + m + 1 - (b + 1) = m := by rw [Nat.add_right_comm, Nat.add_sub_cancel_left]
  have k := iR2n (P := P) (cf := callN P (d + 6)) (l := l72 p B le x b E t cm m hol (.val (.int ((b + m : Nat) : Int))) .un .un) (H := HH p L (bkF B)) (a := .bin .add (.var 6) (.int 1)) (e := .bin .add (.var 10) (.int 1)) (m := b + 1) (n := b + m + 1) (eBA rfl rfl) (eBA rfl rfl) rfl rfl (by lia)
  rw [hr] at k
  refine eCompIfN k (by rw [List.length_range']; lia) (fun j hj => ?_) fun j => rfl
  have hj : j < le.length := Nat.lt_of_lt_of_le (List.mem_range'_1.mp hj).2 hm
  unfold apt
  rw [decide_eq_false (Nat.not_lt_zero j)]
  by_cases q2 : B.now.length - 1 < j
  · rw [decide_eq_true q2]
    exact tO (tsX (tGtT rfl rfl q2) rfl)
  · rw [decide_eq_false q2]
    have hj2 : j < B.now.length := Nat.lt_of_le_of_lt (Nat.le_of_not_lt q2) I.last
    refine tO (tsC (tGtF rfl rfl (Nat.le_of_not_lt q2)) rfl ?_)
    have kn : evalT P (callN P (d + 6)) (.cmp (.idx (.var 4) (.var 15)) (.one .ne (.idx (.var 2) (.var 15)))) ((l72 p B le x b E t cm m hol (.val (.int ((b + m : Nat) : Int))) .un .un).set 15 (.val (.int j))) (HH p L (bkF B)) = .ok (!decide (tf B.now j = tf le j)) (HH p L (bkF B)) := tC (eTlI rfl rfl hj2) (eTlI rfl rfl hj) (ne_int (decide_eq_decide.mpr Int.ofNat_inj))
    cases hd : decide (tf B.now j = tf le j) with
    | true => rw [hd] at kn; exact tsC kn rfl tsN
    | false => rw [hd] at kn; exact tsX kn rfl
theorem tNg {n : Nat} : decide ((-((1 : Nat) : Int)) = (n : Int)) = false := decide_eq_false (by omega)
theorem p72m (I : Iv ls L B) (hle : le ∈ ls) (h1 : B.base ≤ b) (h2 : b ≤ B.now.length - 1) (h3 : tf B.now b = tf le b) (hm : b + 1 + m ≤ le.length) : Fin ls p B (execSs P (callN P (d + 6)) (dropS 11 (bodyS P01.f72)) (l72 p B le x b (es (tf le) (b + 1) m) (tf le b) cm m false (.val .none) .un .un) (HH p L (bkF B))) := by
  have h13 := I.l13
  have l13 := (I.F.len le hle).2
  have h2' := Nat.lt_of_le_of_lt h2 I.last
  have hc13 : B.com < 1000 := Nat.lt_of_lt_of_le I.N.cl (Nat.le_trans h13 (by decide))
  have G := I.gd
  have kj := p72j (p := p) (d := d) (x := x) (E := es (tf le) (b + 1) m) (t := tf le b) (cm := cm) (hol := false) I hm l13
  have t1 : evalT P (callN P (d + 6)) (.cmp (.key (.var 1) 66) (.cons .le (.var 6) (.one .le (.var 5)))) (l72 p B le x b (es (tf le) (b + 1) m) (tf le b) cm m false (.val .none) .un .un) (HH p L (bkF B)) = .ok true (HH p L (bkF B)) := tCh (c := true) (c' := true) (eK rfl rfl) rfl (le_int (decide_eq_true h1)) rfl (le_int (decide_eq_true h2))
  have t2 : evalT P (callN P (d + 6)) (.cmp (.idx (.var 4) (.var 6)) (.one .eq (.var 8))) (l72 p B le x b (es (tf le) (b + 1) m) (tf le b) cm m false (.val .none) .un .un) (HH p L (bkF B)) = .ok true (HH p L (bkF B)) := tEqT (eTlI rfl rfl h2') rfl h3
  have go : ∀ {B' : Bk} {w v : LV} {y : SR}, execSs P (callN P (d + 6)) in72 (l72 p B le x b (es (tf le) (b + 1) m) (tf le b) cm m false (.val .none) .un .un) (HH p L (bkF B)) = .next (l72 p B le x b (es (tf le) (b + 1) m) (tf le b) cm m false w v .un) (HH p L (bkF B')) →
      execSs P (callN P (d + 6)) (dropS 12 (bodyS P01.f72)) (l72 p B le x b (es (tf le) (b + 1) m) (tf le b) cm m false w v .un) (HH p L (bkF B')) = y → execSs P (callN P (d + 6)) (dropS 11 (bodyS P01.f72)) (l72 p B le x b (es (tf le) (b + 1) m) (tf le b) cm m false (.val .none) .un .un) (HH p L (bkF B)) = y :=
    fun k1 k2 => xL (tA (tsC t1 rfl (tsC t2 rfl (tsX (tT rfl) rfl)))) rfl (xI (tA (tsC t1 rfl (tsC t2 rfl tsN))) rfl k1 rfl) k2
  have hsp := fcon_spec (T := tf B.now) (M := tf le) (l := B.now.length - 1) (n := m) (a := b + 1) (Nat.succ_pos b)
  have hbm : b + m < 100 := by lia
  rcases fcon_head (T := tf B.now) (M := tf le) (f := 0) (l := B.now.length - 1) (n := m) (a := b + 1) (Nat.zero_le _) with ⟨e1, e2⟩ | ⟨zs, e1⟩
  · have e1 : apL B le b m = [] := e1
    rw [e1] at kj
    have hl : b + m ≤ B.now.length - 1 := by
      have q := (hsp.resolve_right fun q => by rw [e2] at q; exact absurd q.1 (Nat.not_succ_le_zero b)).2
      match m with
      | 0 => exact h2
      | m + 1 => exact (q (b + (m + 1)) (by lia) (by lia)).1
    exact ⟨_, _, I.setC (i := min cm (b + m)) (Nat.lt_of_le_of_lt (Nat.min_le_right ..) (Nat.lt_of_le_of_lt hl I.last)), rfl, go (B' := { B with com := max B.com (min cm (b + m)) }) (w := .val (.int ((b + m : Nat) : Int))) (v := .val (tl [])) (xA rfl (xA kj (xL (tA (tsX (tGtF (eTlN rfl) rfl (Nat.le_refl 0)) rfl)) rfl (x0 (tGtF (eTlN rfl) rfl (Nat.le_refl 0)) rfl rfl) (xI (tEqT rfl rfl rfl) rfl (xK (p := p) (O := bkF B) (eMaxV (eK rfl rfl) (eMinV rfl rfl minN) maxN) rfl rfl (Nat.lt_of_sub_eq_succ rfl) rfl) rfl))))
      (xTn (xA (eM rfl (mL rfl) rfl (c36s G h1 h2 h3 hbm e2 hl)) rfl) (xR (eEi rfl rfl)))⟩
  · have e1 : apL B le b m = _ := e1
    rw [e1] at kj
    have hfc : fcon (tf B.now) (tf le) (B.now.length - 1) m (b + 1) ≠ 0 → b + 1 ≤ fcon (tf B.now) (tf le) (B.now.length - 1) m (b + 1) ∧ fcon (tf B.now) (tf le) (B.now.length - 1) m (b + 1) < b + 1 + m ∧ (∀ j, b + 1 ≤ j → j < fcon (tf B.now) (tf le) (B.now.length - 1) m (b + 1) → j ≤ B.now.length - 1 ∧ tf B.now j = tf le j) := fun q => by
      rcases hsp with ⟨q1, _⟩ | ⟨q1, q2, q3, _⟩
      · exact absurd q1 q
      · exact ⟨q1, q2, q3⟩
    have hne : fcon (tf B.now) (tf le) (B.now.length - 1) m (b + 1) ≠ 0 := by
      have hmem : fcon (tf B.now) (tf le) (B.now.length - 1) m (b + 1) ∈ apL B le b m := by rw [e1]; exact .head _
      have := List.mem_range'_1.mp (List.mem_filter.mp hmem).1
      lia
    obtain ⟨f1, f2, f3⟩ := hfc hne
    clear hfc hsp
    generalize hc : fcon (tf B.now) (tf le) (B.now.length - 1) m (b + 1) = c at *
    have hpos : 0 < (c :: zs).length := Nat.succ_pos _
    by_cases hcc : c ≤ B.com
    · exact ⟨L, B, I, rfl, go (B' := B) (w := .val (.int (-((1 : Nat) : Int)))) (v := .val (tl (c :: zs))) (xA rfl (xA kj (xI (tA (tsC (tGtT (eTlN rfl) rfl hpos) rfl (tsC (tLeT (eTlI (a := c :: zs) (j := 0) rfl rfl hpos) (eK rfl rfl) hcc) rfl tsN))) rfl (xA rfl rfl) (x0 (tC rfl rfl (eq_int tNg)) rfl rfl))))
        (xTcn (aX (eM rfl (mL rfl) rfl (c36p G h1 h2 h3 hbm hc f1 (by rw [I.A.com]; exact hcc) (by rw [I.A.com]; exact hc13)))) rfl (xR (eEi rfl rfl)))⟩
    · have hcc := Nat.lt_of_not_le hcc
      obtain ⟨q, rfl⟩ : ∃ q, c = q + 1 := ⟨c - 1, (Nat.sub_add_cancel (Nat.lt_of_le_of_lt (Nat.zero_le b) f1)).symm⟩
      obtain ⟨m', hm'⟩ : ∃ m', b + m + 1 = q + 1 + m' := ⟨b + m - q, by lia⟩
      have hm1 : 1 ≤ m' := by lia
      have bq : b ≤ q := Nat.le_of_lt_succ f1
      have q3 : q < B.now.length ∧ tf B.now q = tf le q := by
        rcases Nat.lt_or_eq_of_le bq with g | rfl
        · exact ⟨Nat.lt_of_le_of_lt (f3 q g (Nat.lt_succ_self q)).1 I.last, (f3 q g (Nat.lt_succ_self q)).2⟩
        · exact ⟨h2', h3⟩
      have hq : q + 1 + m' ≤ le.length := by lia
      have pn := put_now I hle q3.1 q3.2 hm1 hq
      have I1 := I.put hle (Nat.le_trans h1 bq) q3.1 q3.2 hm1 hq (Nat.le_of_lt_succ hcc)
      have I2 := I1.setC (i := min cm (b + m)) (by
        show min cm (b + m) < (le.take (q + 1 + m')).length
        rw [List.length_take, Nat.min_eq_left hq, ← hm']
        exact Nat.lt_succ_of_le (Nat.min_le_right ..))
      have k36 := c36c (p := p) (O := bkF { B with now := le.take (q + 1 + m'), kept := min B.kept q, com := max B.com (min cm (b + m)) }) (d := d) (cm := cm) G h1 h2 h3 hbm hc f1 (by lia) (by rw [I.e1]; exact q3.1) (fun j _ => I.leT hle j) (by rw [I.A.com]; exact hcc)
      rw [show b + m + 1 - (q + 1) = m' by rw [hm', Nat.add_sub_cancel_left]] at k36
      have kn : evalE P (callN P (d + 6)) (.bin .add (.sliceU (.var 4) (.idx (.var 13) (.int 0))) (.sliceLU (.var 2) (.idx (.var 13) (.int 0)) (.bin .add (.var 10) (.int 1)))) (l72 p B le x b (es (tf le) (b + 1) m) (tf le b) cm m false (.val (.int ((b + m : Nat) : Int))) (.val (tl ((q + 1) :: zs))) .un) (HH p L (bkF B)) = .ok (tl (le.take (q + 1 + m'))) (HH p L (bkF B)) := by
        rw [← pn]
        exact eTlA (eTlU rfl (eTlI (a := (q + 1) :: zs) (j := 0) rfl rfl hpos) q3.1) (eTlLU rfl (eTlI (a := (q + 1) :: zs) (j := 0) rfl rfl hpos) (eBAe rfl rfl hm') (Nat.le_add_right ..) hq) (by rw [← List.length_append, pn, List.length_take]; lia)
      exact ⟨_, _, I2, rfl, go (B' := { B with now := le.take (q + 1 + m'), kept := min B.kept q, com := max B.com (min cm (b + m)) }) (w := .val (.int ((b + m : Nat) : Int))) (v := .val (tl ((q + 1) :: zs))) (xA rfl (xA kj (xL (tA (tsC (tGtT (eTlN rfl) rfl hpos) rfl (tsX (tLeF (eTlI (a := (q + 1) :: zs) (j := 0) rfl rfl hpos) (eK rfl rfl) hcc) rfl))) rfl (xI (tGtT (eTlN rfl) rfl hpos) rfl (xK (p := p) (O := bkF B) kn rfl rfl (Nat.lt_of_sub_eq_succ rfl) (xK (p := p) (O := bkF { B with now := le.take (q + 1 + m') }) (eMinV (j := ((q + 1 - 1 : Nat) : Int)) (k := ((min B.kept q : Nat) : Int)) (eK rfl rfl) (eBS (eTlI (a := (q + 1) :: zs) (j := 0) rfl rfl hpos) rfl (Nat.succ_pos q)) minN) rfl rfl (Nat.lt_of_sub_eq_succ rfl) rfl)) rfl)
          (xI (tEqT rfl rfl rfl) rfl (xK (p := p) (O := bkF { B with now := le.take (q + 1 + m'), kept := min B.kept q }) (eMaxV (eK rfl rfl) (eMinV rfl rfl minN) maxN) rfl rfl (Nat.lt_of_sub_eq_succ rfl) rfl) rfl))))
        (xTn (xA (eM rfl (mL rfl) rfl k36) rfl) (xR (eEi rfl rfl)))⟩
end Mini.L
namespace Mini.L
open Mini
variable {p : Sh} {L : Lg} {B : Bk} {H : MH} {d k m n b x i t cm c : Nat} {ls : List (List Nat)} {O : Flds} {le : List Nat} {E : List MV} {hol : Bool}
theorem bound_neg {n k : Nat} (h : k ≤ n) (hk : 0 < k) : bound n (-(k : Int)) = n - k := by
  unfold bound
  rw [if_pos (by omega)]; omega
theorem eSn {cf : Nat → List MV → MH → RS MV} {e : ME} {l : Loc} (h : evalE P cf e l H = .ok (.list (es (tf le) (b + 1) (n + 2))) H) (hz : n < 100) : evalE P cf (.bin .add (.sliceU e (.neg 2)) (.sliceL e (.neg 1))) l H = .ok (.list (es (tf le) (b + 1) n ++ [en (tf le (b + 1 + (n + 1))) (b + 1 + (n + 1))])) H := by
  have hl : (es (tf le) (b + 1) (n + 2)).length = n + 2 := es_len
  have k1 : evalE P cf (.sliceU e (.neg 2)) l H = .ok (.list (es (tf le) (b + 1) n)) H := bnd h (bnd rfl (op (c := MV.list (es (tf le) (b + 1) n)) (by
    show some (MV.list (((es (tf le) (b + 1) (n + 2)).take (bound _ (-((2 : Nat) : Int)))).drop 0)) = _
    rw [hl, bound_neg (Nat.le_add_left ..) (by decide), Nat.add_sub_cancel, es_take (Nat.le_add_right ..)]; rfl) rfl))
  have k2 : evalE P cf (.sliceL e (.neg 1)) l H = .ok (.list [en (tf le (b + 1 + (n + 1))) (b + 1 + (n + 1))]) H := bnd h (bnd rfl (op (c := MV.list [en (tf le (b + 1 + (n + 1))) (b + 1 + (n + 1))]) (by
    show some (MV.list (((es (tf le) (b + 1) (n + 2)).take _).drop (bound _ (-((1 : Nat) : Int))))) = _
    rw [List.take_length, hl, show bound (n + 2) (-((1 : Nat) : Int)) = n + 1 from bound_neg (Nat.le_add_left ..) (by decide), es_drop (Nat.le_succ _), Nat.succ_sub (Nat.le_refl _), Nat.sub_self]; rfl) rfl))
  exact eB k1 k2 (add_list (by rw [es_len]; show n + 1 ≤ 1000; lia))
theorem ixd_lo {j : Nat} {v : MV} (h : j < n) : Ixd (es (tf le) (b + 1) n ++ [v]) j (b + 1 + j) := ⟨_, (List.getElem?_append_left (es_len.symm ▸ h)).trans (es_get h), fun _ => rfl⟩
theorem ixd_hi {t i : Nat} : Ixd (es (tf le) (b + 1) n ++ [en t i]) n i := ⟨en t i, by rw [List.getElem?_append_right (Nat.le_of_eq es_len), es_len, Nat.sub_self]; rfl, fun _ => rfl⟩
theorem maxQ {f y : Nat} : (if ((0 : Nat) : Int) < (f : Int) - (y : Int) then (f : Int) - (y : Int) else ((0 : Nat) : Int)) = ((f - y : Nat) : Int) := by split <;> omega
noncomputable def l72a (p : Sh) (B : Bk) (le : List Nat) (x b : Nat) (E : List MV) (t cm nw hol w : LV) : Loc := [.val (.obj (lx p)), .val (.obj 3), .val (tl le), .val (.int x), .val (tl B.now), .val (.int ((B.now.length - 1 : Nat) : Int)), .val (.int b), .val (.list E), t, cm, nw, hol, w, .un, .un, .un]
theorem c72 (I : Iv ls L B) (hle : le ∈ ls) : FinC ls p B (callN P (d + 7) 72 [.obj (lx p), .obj 3, tl le, .int x] (HH p L (bkF B))) := by
  have h13 := I.l13
  have l13 := I.F.len le hle
  obtain ⟨y, hy⟩ : ∃ y, y = (1 + x / 4 % 5) % 5 := ⟨_, rfl⟩
  obtain ⟨z, hz⟩ : ∃ z, z = (1 + x / 20) % 5 := ⟨_, rfl⟩
  have hz5 : z < 5 := hz ▸ Nat.mod_lt _ (by decide)
  obtain ⟨b, hb⟩ : ∃ b, b = min (B.now.length - y) (le.length - 1) := ⟨_, rfl⟩
  have hb1 : b < le.length := Nat.lt_of_le_of_lt (hb ▸ Nat.min_le_right ..) (Nat.sub_lt (Nat.lt_of_lt_of_le Nat.zero_lt_two l13.1) Nat.one_pos)
  have hb2 : b ≤ B.now.length := Nat.le_trans (hb ▸ Nat.min_le_left ..) (Nat.sub_le ..)
  obtain ⟨m, hm⟩ : ∃ m, m = min (b + 1 + z) le.length - (b + 1) := ⟨_, rfl⟩
  have hml : b + 1 + m ≤ le.length := by
    rw [hm, Nat.add_sub_cancel' (Nat.le_min.mpr ⟨Nat.le_add_right .., hb1⟩)]; exact Nat.min_le_right ..
  have k64 := c64 (d := d + 4) (H := HH p L (bkF B)) (ts := le) (m := b + 1) (n := b + 1 + z) (by lia) (by lia) (by lia) (fun j _ => Nat.lt_trans (I.leT hle j) (by decide))
  rw [← hm] at k64
  have st1 : ∃ t, (t = tf le b ∨ t = 9) ∧ ∀ y, execSs P (callN P (d + 6)) (dropS 6 (bodyS P01.f72)) (l72a p B le x b (es (tf le) (b + 1) m) (.val (.int t)) .un .un .un .un) (HH p L (bkF B)) = y → execSs P (callN P (d + 6)) (dropS 4 (bodyS P01.f72)) (l72a p B le x b (es (tf le) (b + 1) m) .un .un .un .un .un) (HH p L (bkF B)) = y := by
    by_cases h : x / 100 % 4 = 3
    · exact ⟨9, .inr rfl, fun y k => xA (eTlI rfl rfl hb1) (xI (tEqT (eBM (eBD rfl rfl (by decide) (by decide)) rfl (by decide)) rfl h) rfl (xA rfl rfl) k)⟩
    · exact ⟨_, .inl rfl, fun y k => xA (eTlI rfl rfl hb1) (x0 (tEqF (eBM (eBD rfl rfl (by decide) (by decide)) rfl (by decide)) rfl h) rfl k)⟩
  obtain ⟨t, ht, st1⟩ := st1
  obtain ⟨cm, hcm⟩ : ∃ cm, cm = x / 400 % 9 := ⟨_, rfl⟩
  have k11 : evalE P (callN P (d + 6)) (.and (.cons (.cmp (.bin .mod (.bin .fdiv (.var 3) (.int 100)) (.int 4)) (.one .eq (.int 2))) (.cons (.cmp (.len (.var 7)) (.one .gt (.int 1))) .nil))) (l72a p B le x b (es (tf le) (b + 1) m) (.val (.int t)) (.val (.int cm)) (.val (.int ((b + m : Nat) : Int))) .un .un) (HH p L (bkF B)) = .ok (.bool (decide (x / 100 % 4 = 2) && decide (1 < m))) (HH p L (bkF B)) :=
    eAnd2 (eEq (eBM (eBD rfl rfl (by decide) (by decide)) rfl (by decide)) rfl) fun _ => eGt (esN rfl) rfl
  have st2 : ∃ hol E, (hol = false → E = es (tf le) (b + 1) m) ∧ (hol = true → ∃ n, n < 100 ∧ E.length = n + 1 ∧ (∀ j, j < n → Ixd E j (b + 1 + j)) ∧ Ixd E n (b + 1 + n + 1)) ∧ ∀ y, execSs P (callN P (d + 6)) (dropS 11 (bodyS P01.f72)) (l72 p B le x b E t cm m hol (.val .none) .un .un) (HH p L (bkF B)) = y →
      execSs P (callN P (d + 6)) (dropS 8 (bodyS P01.f72)) (l72a p B le x b (es (tf le) (b + 1) m) (.val (.int t)) (.val (.int cm)) (.val (.int ((b + m : Nat) : Int))) .un .un) (HH p L (bkF B)) = y := by
    by_cases h : x / 100 % 4 = 2 ∧ 1 < m
    · obtain ⟨n, rfl⟩ : ∃ n, m = n + 2 := ⟨m - 2, (Nat.sub_add_cancel h.2).symm⟩
      rw [decide_eq_true h.1, decide_eq_true h.2] at k11
      have hn : n < 100 := by lia
      exact ⟨true, es (tf le) (b + 1) n ++ [en (tf le (b + 1 + (n + 1))) (b + 1 + (n + 1))], fun q => (nomatch q), fun _ => ⟨n, hn, by rw [List.length_append, es_len]; rfl, fun j hj => ixd_lo hj, ixd_hi⟩, fun y k => xA k11 (xA rfl (xI (tT rfl) rfl (xA (eSn rfl hn) rfl) k))⟩
    · rw [← Bool.decide_and, decide_eq_false h] at k11
      exact ⟨false, _, fun _ => rfl, fun q => (nomatch q), fun y k => xA k11 (xA rfl (x0 (tT rfl) rfl k))⟩
  obtain ⟨hol, E, hE, hE2, st2⟩ := st2
  have fin : Fin ls p B (execSs P (callN P (d + 6)) (dropS 11 (bodyS P01.f72)) (l72 p B le x b E t cm m hol (.val .none) .un .un) (HH p L (bkF B))) := by
    by_cases hk : (B.base ≤ b ∧ b ≤ B.now.length - 1) ∧ tf B.now b = t
    · cases hol with
      | true =>
        obtain ⟨n, hn, e1, e2, e3⟩ := hE2 rfl
        exact p72h I hk.1.1 hk.1.2 hk.2 hn e1 e2 e3
      | false =>
        obtain rfl := hE rfl
        have h9 : t ≠ 9 := fun q => absurd (I.F.okt I.N.on (i := b)) (by rw [hk.2, q]; decide)
        obtain rfl := ht.resolve_right h9
        exact p72m I hle hk.1.1 hk.1.2 hk.2 hml
    · exact p72x I hb2 hk
  obtain ⟨L', B', I', hmo, e⟩ := fin
  exact ⟨L', B', I', hmo, callAt rfl (runR rfl (xA (eK rfl rfl) (xA (eBS (eTlN rfl) rfl I.pos) (xA (v := .int b) (eMinV (eMaxV rfl (eB (eBAe rfl rfl I.e1) ((eBM (eBA rfl (eBM (eBD rfl rfl (by decide) (by decide)) rfl (by decide))) rfl (by decide)).trans (by rw [← hy])) rfl) maxQ) (eBS (eTlN rfl) rfl (Nat.le_of_lt l13.1)) (minN.trans (by rw [hb])))
    (xA (eCl (eCons rfl (eCons (eBA rfl rfl) (eCons (eBA (eBA rfl rfl) ((eBM (eBA rfl (eBD rfl rfl (by decide) (by decide))) rfl (by decide)).trans (by rw [← hz]))) rfl))) k64) (st1 _ (xA ((eBM (eBD rfl rfl (by decide) (by decide)) rfl (by decide)).trans (by rw [← hcm])) (xA (eBA rfl (esN rfl)) (st2 _ e)))))))))⟩
end Mini.L
namespace Mini.L
open Mini
variable {p : Sh} {L : Lg} {B : Bk} {H : MH} {d k m n b x i t u mo fi w : Nat} {ls : List (List Nat)} {O : Flds} {le : List Nat} {ns : List Int}
theorem Iv.fold (I : Iv ls L B) (hp : B.pend = false) (h1 : B.base < u) (h2 : u ≤ B.app) (h3 : u ≤ B.kept) :
    L.b < u ∧ L.st[u - (L.b + 1)]? = some (en (tf B.disk u) u) ∧ Iv ls { L with sp := .inst 3 [.int u, .int (tf B.disk u), L.cs, .bytes []], b := u, t := tf B.disk u, st := L.st.drop (u - L.b) } { B with base := u, db := u } := by
  obtain ⟨g1, g2, g3, g4⟩ := I.N.so (.inl hp)
  have hb : L.b = B.base := I.S.b.trans g1
  have hst : L.st = es (tf B.disk) (B.base + 1) (B.disk.length - (B.base + 1)) := by rw [I.S.st, g1]
  have hu : u < B.disk.length := Nat.lt_of_le_of_lt h3 g2
  refine ⟨hb ▸ h1, ?_, I.F, ⟨I.A.off, I.A.ue, I.A.com, I.A.app, I.A.mx, I.A.sn.trans (by rw [hp]; rfl)⟩, ⟨rfl, rfl, ?_, ⟨_, _, _, rfl⟩⟩, { I.N with bc := Nat.le_trans h2 I.N.ac, bk := h3, dl := hu, pk := fun h => absurd (hp.symm.trans h) (fun q => (nomatch q)), so := fun _ => ⟨rfl, g2, g3, g4⟩, ns := fun h => absurd (hp.symm.trans h) (fun q => (nomatch q)), ot := fun h => ⟨(I.N.ot h).1, fun q => absurd (((I.N.ot h).1.symm.trans q).symm.trans hp) (fun q => (nomatch q)), (I.N.ot h).2.2⟩ }⟩
  · rw [hst, hb, es_get (Nat.sub_lt_sub_right h1 hu), Nat.add_sub_cancel' h1]
  · show L.st.drop (u - L.b) = es _ (u + 1) (B.disk.length - (u + 1))
    rw [hst, hb, es_drop (by lia), show B.base + 1 + (u - B.base) = u + 1 by lia, show B.disk.length - (B.base + 1) - (u - B.base) = B.disk.length - (u + 1) by lia]
theorem Iv.boot (I : Iv ls L B) : Iv ls (lg0 L B.most) { B with now := B.disk, base := B.db, com := B.db, app := B.db, kept := B.disk.length - 1, pend := false, out := none } := by
  have hd := I.N.dl
  have e : B.disk.length - 1 + 1 = B.disk.length := Nat.sub_add_cancel (Nat.lt_of_le_of_lt (Nat.zero_le _) hd)
  have hk : B.disk.length - 1 < B.disk.length := e ▸ Nat.lt_succ_self _
  refine ⟨I.F, ⟨?_, ?_, I.S.b, I.S.b, rfl, rfl⟩, ⟨I.S.b, I.S.t, I.S.st, I.S.sp⟩, { I.N with ac := Nat.le_refl _, bc := Nat.le_refl _, cl := hd, bk := Nat.le_sub_one_of_lt hd, kl := hk, pk := fun h => (nomatch h), so := fun _ => ⟨rfl, hk, fun _ _ => rfl, fun _ => rfl⟩, ns := fun h => (nomatch h), ot := fun h => (nomatch h), on := I.N.od }⟩
  · show L.b + L.st.length + 1 = B.disk.length - 1 + 1
    rw [I.S.b, I.S.st, es_len]; lia
  · show [] = es _ (B.disk.length - 1 + 1) (B.disk.length - (B.disk.length - 1 + 1))
    rw [e, Nat.sub_self]; rfl
noncomputable def l78 (ns : List Int) (mo fi : Nat) (p : Sh) (a7 a8 a9 aw al ar au aq ao : LV) : Loc := [.val (.list (ns.map .int)), .val (.int mo), .val (.int fi), .val (.obj 0), .val (.obj (lx p)), .val (.list ((lds ns).map tl)), .val (.obj 3), a7, a8, a9, aw, al, ar, au, aq, ao]
noncomputable def tb78 : MSs := match dropS 6 (bodyS P01.f78) with | .cons (.forr _ _ b) _ => b | _ => .nil
def Trn (ns : List Int) (mo fi : Nat) (p : Sh) (L : Lg) (B : Bk) (d : Nat) (a7 a8 : LV) (x w : Nat) (le : List Nat) (au aq ao : LV) : Prop :=
  ∃ p' L' B' au', Iv (lds ns) L' B' ∧ B'.most = B.most ∧ ∀ y, execSs P (callN P (d + 7)) (dropS 6 tb78) (l78 ns mo fi p' a7 a8 (.val (.int x)) (.val (.int w)) (.val (tl le)) (.val (.bool true)) au' aq ao) (HH p' L' (bkF B')) = y →
    execSs P (callN P (d + 7)) (dropS 5 tb78) (l78 ns mo fi p a7 a8 (.val (.int x)) (.val (.int w)) (.val (tl le)) (.val (.bool true)) au aq ao) (HH p L (bkF B)) = y
variable {a7 a8 au aq ao : LV}
theorem t5a (I : Iv (lds ns) L B) (hle : le ∈ lds ns) (hw : w < 2) : Trn ns mo fi p L B d a7 a8 x w le au aq ao := by
  obtain ⟨L', B', I', hm, e⟩ := c72 (d := d) (p := p) (x := x) I hle
  exact ⟨p, L', B', au, I', hm, fun y k => xI (tLtT rfl rfl hw) rfl (xA (eCl rfl e) rfl) k⟩
theorem t5b (I : Iv (lds ns) L B) (hle : le ∈ lds ns) (hw : w = 2) : Trn ns mo fi p L B d a7 a8 x w le au aq ao := by
  obtain ⟨L', B', I', hm, e⟩ := c73 (d := d + 3) (p := p) (x := x) I hle
  subst hw
  exact ⟨p, L', B', au, I', hm, fun y k => xL (tLtF rfl rfl (Nat.le_refl 2)) rfl (xI (tEqT rfl rfl rfl) rfl (xA (eCl rfl e) rfl) rfl) k⟩
theorem t5c (I : Iv (lds ns) L B) (hw : w = 3) : Trn ns mo fi p L B d a7 a8 x w le au aq ao := by
  subst hw
  cases ho : B.out with
  | none =>
    obtain ⟨L', B', I', hm, e⟩ := c74 (d := d + 3) (p := p) I ho
    exact ⟨p, L', B', au, I', hm, fun y k => xL (tLtF rfl rfl (by decide)) rfl (xL (tEqF rfl rfl (by decide)) rfl (xI (tEqT rfl rfl rfl) rfl (xI (tZ (eK rfl rfl) (by rw [ho]; rfl)) rfl (xE (eCl rfl e) rfl) rfl) rfl) rfl) k⟩
  | some z =>
    obtain ⟨L', B', I', hm, h0, e⟩ := c75 (d := d + 3) (p := p) I ho
    exact ⟨p, L', B', au, I', hm, fun y k => xL (tLtF rfl rfl (by decide)) rfl (xL (tEqF rfl rfl (by decide)) rfl (xI (tEqT rfl rfl rfl) rfl (xL (tZ (b := false) (eK rfl rfl) (by rw [ho]; rfl)) rfl (xE (eCl rfl e) rfl) rfl) rfl) rfl) k⟩
theorem t5d (I : Iv (lds ns) L B) (hw : w = 4 ∨ w = 5) : Trn ns mo fi p L B d a7 a8 x w le au aq ao := by
  obtain ⟨L', B', I', hm, e⟩ := c76 (d := d + 1) (p := p) (x := x) I hw
  have h2 : 2 ≤ w := by lia
  have h3 : w ≠ 2 := by lia
  have h4 : w ≠ 3 := by lia
  have h5 : w < 6 := by lia
  exact ⟨p, L', B', au, I', hm, fun y k => xL (tLtF rfl rfl h2) rfl (xL (tEqF rfl rfl h3) rfl (xL (tEqF rfl rfl h4) rfl (xI (tLtT rfl rfl h5) rfl (xA (eCl rfl e) rfl) rfl) rfl) rfl) k⟩
theorem t5e (I : Iv (lds ns) L B) (hle : le ∈ lds ns) (hw : w = 6) : Trn ns mo fi p L B d a7 a8 x w le au aq ao := by
  subst hw
  have hl := (I.F.len le hle).1
  obtain ⟨s, hs⟩ : ∃ s, s = x / 4 % le.length := ⟨_, rfl⟩
  have hs2 : s < le.length := hs ▸ Nat.mod_lt _ (Nat.lt_of_lt_of_le Nat.zero_lt_two hl)
  have es : ∀ {l : Loc} {H : MH}, evalE P (callN P (d + 7)) (.var 9) l H = .ok (.int x) H → evalE P (callN P (d + 7)) (.var 11) l H = .ok (tl le) H → evalE P (callN P (d + 7)) (.bin .mod (.bin .fdiv (.var 9) (.int 4)) (.len (.var 11))) l H = .ok (.int s) H := fun k1 k2 => hs ▸ eBM (eBD k1 rfl (by decide) (by decide)) (eTlN k2) (Nat.ne_of_gt (Nat.lt_of_lt_of_le Nat.zero_lt_two hl))
  cases ho : B.out with
  | none =>
    obtain ⟨L', B', I', hm, e⟩ := c77 (d := d) (p := p) (s := s) I ho hle hs2
    exact ⟨p, L', B', au, I', hm, fun y k => xL (tLtF rfl rfl (by decide)) rfl (xL (tEqF rfl rfl (by decide)) rfl (xL (tEqF rfl rfl (by decide)) rfl (xL (tLtF rfl rfl (by decide)) rfl (xI (tEqT rfl rfl rfl) rfl (x0 (tY (b := false) (eK rfl rfl) (by rw [ho]; rfl)) rfl (xA (eCl (eCons rfl (eCons rfl (eCons rfl (eCons (es rfl rfl) rfl)))) e) rfl)) rfl) rfl) rfl) rfl) k⟩
  | some z =>
    obtain ⟨L1, B1, I1, hm1, h0, e1⟩ := c75 (d := d + 3) (p := p) I ho
    obtain ⟨L', B', I', hm, e⟩ := c77 (d := d) (p := p) (s := s) I1 h0 hle hs2
    exact ⟨p, L', B', au, I', hm.trans hm1, fun y k => xL (tLtF rfl rfl (by decide)) rfl (xL (tEqF rfl rfl (by decide)) rfl (xL (tEqF rfl rfl (by decide)) rfl (xL (tLtF rfl rfl (by decide)) rfl (xI (tEqT rfl rfl rfl) rfl (xI (tY (b := true) (eK rfl rfl) (by rw [ho]; rfl)) rfl (xE (eCl rfl e1) rfl) (xA (eCl (eCons rfl (eCons rfl (eCons rfl (eCons (es rfl rfl) rfl)))) e) rfl)) rfl) rfl) rfl) rfl) k⟩
end Mini.L
namespace Mini.L
open Mini
variable {p : Sh} {L : Lg} {B : Bk} {H : MH} {d k m n b x i t u mo fi w : Nat} {ls : List (List Nat)} {O : Flds} {le : List Nat} {ns : List Int} {a7 a8 au aq ao : LV}
noncomputable def in78 : MSs := match dropS 5 tb78 with | .cons (.ife _ _ (.cons (.ife _ _ (.cons (.ife _ _ (.cons (.ife _ _ (.cons (.ife _ _ b) _)) _)) _)) _)) _ => b | _ => .nil
theorem t5n (hw : w = 7) {p' : Sh} {L' : Lg} {B' : Bk} {au' : LV} {y : SR}
    (h : execSs P (callN P (d + 7)) in78 (l78 ns mo fi p a7 a8 (.val (.int x)) (.val (.int w)) (.val (tl le)) (.val (.bool true)) au aq ao) (HH p L (bkF B)) = .next (l78 ns mo fi p' a7 a8 (.val (.int x)) (.val (.int w)) (.val (tl le)) (.val (.bool true)) au' aq ao) (HH p' L' (bkF B')))
    (k : execSs P (callN P (d + 7)) (dropS 6 tb78) (l78 ns mo fi p' a7 a8 (.val (.int x)) (.val (.int w)) (.val (tl le)) (.val (.bool true)) au' aq ao) (HH p' L' (bkF B')) = y) :
    execSs P (callN P (d + 7)) (dropS 5 tb78) (l78 ns mo fi p a7 a8 (.val (.int x)) (.val (.int w)) (.val (tl le)) (.val (.bool true)) au aq ao) (HH p L (bkF B)) = y := by
  subst hw
  exact xL (tLtF rfl rfl (by decide)) rfl (xL (tEqF rfl rfl (by decide)) rfl (xL (tEqF rfl rfl (by decide)) rfl (xL (tLtF rfl rfl (by decide)) rfl (xL (tEqF rfl rfl (by decide)) rfl h rfl) rfl) rfl) rfl) k
theorem t5g (I : Iv (lds ns) L B) (hmo : B.most = mo) (hw : w = 7) (hx : x % 2 ≠ 1) : Trn ns mo fi p L B d a7 a8 x w le au aq ao := by
  subst hmo
  refine ⟨nxt p L, _, _, au, I.boot, rfl, fun y k => t5n hw (xL (tEqF (eBM rfl rfl (by decide)) rfl hx) rfl (xA (new6 (p := p) (L := L) (O := bkF B) (d := d + 4) (mx := B.most) (eCons rfl (eCons rfl rfl)))
    (xK (p := nxt p L) (O := bkF B) (eK rfl rfl) rfl rfl (Nat.lt_of_sub_eq_succ rfl)
    (xK (p := nxt p L) (O := bkF { B with now := B.disk }) (eK rfl rfl) rfl rfl (Nat.lt_of_sub_eq_succ rfl)
    (xK (p := nxt p L) (O := bkF { B with now := B.disk, base := B.db }) (eK rfl rfl) rfl rfl (Nat.lt_of_sub_eq_succ rfl)
    (xK (p := nxt p L) (O := bkF { B with now := B.disk, base := B.db, com := B.db }) (eK rfl rfl) rfl rfl (Nat.lt_of_sub_eq_succ rfl)
    (xK (p := nxt p L) (O := bkF { B with now := B.disk, base := B.db, com := B.db, app := B.db }) (eBS (eTlN (eK rfl rfl)) rfl (Nat.lt_of_le_of_lt (Nat.zero_le _) I.N.dl)) rfl rfl (Nat.lt_of_sub_eq_succ rfl)
    (xK (p := nxt p L) (O := bkF { B with now := B.disk, base := B.db, com := B.db, app := B.db, kept := B.disk.length - 1 }) rfl rfl rfl (Nat.lt_of_sub_eq_succ rfl)
    (xK (p := nxt p L) (O := bkF { B with now := B.disk, base := B.db, com := B.db, app := B.db, kept := B.disk.length - 1, pend := false }) rfl rfl rfl (Nat.lt_of_sub_eq_succ rfl) rfl)))))))) rfl) k⟩
theorem t5f (I : Iv (lds ns) L B) (hw : w = 7) (hx : x % 2 = 1) : Trn ns mo fi p L B d a7 a8 x w le au aq ao := by
  have t1 : ∀ {au}, evalT P (callN P (d + 7)) (.cmp (.bin .mod (.var 9) (.int 2)) (.one .eq (.int 1))) (l78 ns mo fi p a7 a8 (.val (.int x)) (.val (.int w)) (.val (tl le)) (.val (.bool true)) au aq ao) (HH p L (bkF B)) = .ok true (HH p L (bkF B)) := tEqT (eBM rfl rfl (by decide)) rfl hx
  have k13 : evalE P (callN P (d + 7)) (.min2 (.key (.var 6) 23) (.key (.var 6) 68)) (l78 ns mo fi p a7 a8 (.val (.int x)) (.val (.int w)) (.val (tl le)) (.val (.bool true)) au aq ao) (HH p L (bkF B)) = .ok (.int ((min B.app B.kept : Nat) : Int)) (HH p L (bkF B)) := eMinV (eK rfl rfl) (eK rfl rfl) minN
  obtain ⟨z, hz⟩ : ∃ z, z = min B.app B.kept := ⟨_, rfl⟩
  rw [← hz] at k13
  have t0 : evalT P (callN P (d + 7)) (.not (.e (.key (.var 6) 67))) (l78 ns mo fi p a7 a8 (.val (.int x)) (.val (.int w)) (.val (tl le)) (.val (.bool true)) (.val (.int z)) aq ao) (HH p L (bkF B)) = .ok (!B.pend) (HH p L (bkF B)) := tN (tT (eK rfl rfl))
  by_cases h : B.pend = false ∧ B.base < z
  · obtain ⟨hp, hb⟩ := h
    rw [hp] at t0
    have hzb : z - B.base ≠ 0 := Nat.sub_ne_zero_of_lt hb
    obtain ⟨r, hr⟩ : ∃ r, r = x / 2 % (z - B.base) := ⟨_, rfl⟩
    have hr2 : r < z - B.base := hr ▸ Nat.mod_lt _ (Nat.pos_of_ne_zero hzb)
    obtain ⟨u, hu⟩ : ∃ u, u = z - r := ⟨_, rfl⟩
    have hu1 : B.base < u := by lia
    have hz1 : z ≤ B.app := hz ▸ Nat.min_le_left ..
    have hz2 : z ≤ B.kept := hz ▸ Nat.min_le_right ..
    have huz : u ≤ z := hu ▸ Nat.sub_le ..
    obtain ⟨f1, f2, I'⟩ := I.fold hp hu1 (Nat.le_trans huz hz1) (Nat.le_trans huz hz2)
    obtain ⟨v, k50⟩ := c50 (p := p) (O := bkF B) (d := d + 4) I.S.sp (I.S.b ▸ f1) f1 f2
    have ag : (intz (.int (z : Int)) (.int (r : Int)) fun a b => binop .sub (.int a) (.int b)) = some (.int (u : Int)) := congrArg (fun q => some (MV.int q)) (by rw [hu]; exact sub_nat (Nat.le_trans (Nat.le_of_lt hr2) (Nat.sub_le ..)))
    exact ⟨p, _, _, .val (.int u), I', rfl, fun y k => t5n hw (xI t1 rfl (xA k13 (xI (tA (tsC t0 rfl (tsC (tGtT rfl (eK rfl rfl) hb) rfl tsN))) rfl (xG rfl ((eBM (eBD rfl rfl (by decide) (by decide)) (eBS rfl (eK rfl rfl) (Nat.le_of_lt hb)) hzb).trans (by rw [← hr])) ag
      (xE (eM rfl (mS (p := p) rfl) (eCons rfl (eCons rfl (eCons rfl rfl))) k50) (xE (eM rfl (mS (p := p) rfl) (eCons rfl rfl) (c20 (p := p) (d := d + 4) f1 f2)) (xK (p := p) (O := bkF B) rfl rfl rfl (Nat.lt_of_sub_eq_succ rfl) (xK (p := p) (O := bkF { B with base := u }) rfl rfl rfl (Nat.lt_of_sub_eq_succ rfl) rfl))))) rfl)) rfl) k⟩
  · refine ⟨p, L, B, .val (.int z), I, rfl, fun y k => t5n hw (xI t1 rfl (xA k13 (x0 (c := false) (tA ?_) rfl rfl)) rfl) k⟩
    cases hp : B.pend with
    | true => rw [hp] at t0; exact tsX t0 rfl
    | false => rw [hp] at t0; exact tsC t0 rfl (tsX (tGtF rfl (eK rfl rfl) (Nat.le_of_not_lt fun q => h ⟨hp, q⟩)) rfl)
end Mini.L
namespace Mini.L
open Mini
variable {p : Sh} {L : Lg} {B : Bk} {H : MH} {d k m n b x i t u mo fi w : Nat} {ls : List (List Nat)} {O : Flds} {le : List Nat} {ns : List Int} {a7 a8 a9 aw al ar au aq ao : LV}
section
variable {P : Prg} {cf : Nat → List MV → MH → RS MV} {l : Loc} {H H₁ : MH} {ta tb : MT} {c c' : Bool} {ea eb : ME} {es : MEs} {vs : List MV} {ks : List Nat} {r : MSs} {y : SR}
theorem tAN (h : evalT P cf ta l H = .ok c H) (h2 : evalT P cf tb l H = .ok false H) : evalT P cf (.and (.cons ta (.cons tb .nil))) l H = .ok false H := by
  cases c with
  | true => exact tA (tsC h rfl (tsX h2 rfl))
  | false => exact tA (tsX h rfl)
theorem tO2 (h : evalT P cf ta l H = .ok c H) (h2 : evalT P cf tb l H = .ok c' H) : evalT P cf (.or (.cons ta (.cons tb .nil))) l H = .ok (c || c') H := by
  cases c with
  | true => exact tO (tsX h rfl)
  | false =>
    cases c' with
    | true => exact tO (tsC h rfl (tsX h2 rfl))
    | false => exact tO (tsC h rfl (tsC h2 rfl tsN))
theorem eM2 {j : Nat} (h : evalE P cf eb l H = .ok (.int j) H₁) : evalE P cf (.bin .mul (.int 2) eb) l H = .ok (.int ((2 * j : Nat) : Int)) H₁ := eB rfl h rfl
theorem xD (h : evalEs P cf es l H = .ok vs H₁) (hk : vs.length = ks.length ∧ ks.length ≤ 100 ∧ ks.Nodup) (k : execSs P cf r (l.set i (.val (.obj H₁.length))) (H₁ ++ [⟨P.cls.length, ks.zip vs⟩]) = y) : execSs P cf (.cons (.dictNew i ks es) r) l H = y := thn (tos h (ops (c := ()) (by rw [decide_eq_true hk]; rfl) rfl)) k
end
theorem Iv.gB (I : Iv ls L B) : getAttr P (.obj (sx p)) 14 (HH p L O) = some (.int B.db) := Mini.L.gB.trans (by rw [I.S.b])
theorem Iv.gL (I : Iv ls L B) : getAttr P (.obj (sx p)) 16 (HH p L O) = some (.list (es (tf B.disk) (B.db + 1) (B.disk.length - (B.db + 1)))) := Mini.L.gL.trans (by rw [I.S.st])
theorem t6 (I : Iv (lds ns) L B) (hle : le ∈ lds ns) : ∃ aq' ao', execSs P (callN P (d + 7)) (dropS 6 tb78) (l78 ns mo fi p (.val (.int k)) (.val (.int n)) a9 aw (.val (tl le)) (.val (.bool true)) au aq ao) (HH p L (bkF B)) = .next (l78 ns mo fi p (.val (.int k)) (.val (.int n)) a9 aw (.val (tl le)) (.val (.bool true)) au aq' ao') (HH p L (bkF B)) := by
  have h13 := I.l13
  have d13 : B.disk.length ≤ 13 := I.F.okl I.N.od
  have k65 := c65 (d := d + 5) (H := HH p L (bkF B)) (ts := B.disk) (m := B.db + 1) (n := B.disk.length) (Nat.le_trans I.N.dl (Nat.le_trans d13 (by decide))) (Nat.le_refl _) (Nat.le_trans d13 (by decide)) (fun _ _ => Nat.lt_of_le_of_lt (I.F.okt I.N.od) (by decide))
  have k66 : callN P (d + 7) 66 [.list (es (tf B.disk) (B.db + 1) (B.disk.length - (B.db + 1)))] (HH p L (bkF B)) = .ok (.list (rs (tf B.disk) (B.db + 1) (B.disk.length - (B.db + 1)))) (HH p L (bkF B)) := c66 (Nat.le_trans (Nat.sub_le ..) (Nat.le_trans d13 (by decide)))
  have k34 : callN P (d + 7) 18 [.obj (sx p), .int B.db] (HH p L (bkF B)) = .ok (.int (tf B.disk B.db)) (HH p L (bkF B)) := (f18a I.S.b.symm).trans (by rw [I.S.t])
  have n7 : ∀ {aq j}, evalT P (callN P (d + 7)) (.or (.cons (.cmp (.bin .mod (.bin .fdiv (.var 8) (.int 8)) (.int 2)) (.one .eq (.int j))) (.cons (.cmp (.var 7) (.one .eq (.int 8))) .nil))) (l78 ns mo fi p (.val (.int k)) (.val (.int n)) a9 aw (.val (tl le)) (.val (.bool true)) au aq ao) (HH p L (bkF B)) = .ok (decide (n / 8 % 2 = j) || decide (k = 8)) (HH p L (bkF B)) := fun {aq j} => tO2 (tEq (eBM (eBD rfl rfl (by decide) (by decide)) rfl (by decide)) rfl) (tEq rfl rfl)
  exact ⟨_, _, xA (eBD rfl rfl (by decide) (by decide)) (x0 (tO (tsC (tN (tT rfl)) rfl (tsC (tN (tT (eCl rfl (c69 I)))) rfl tsN))) rfl (x0 (tAN n7 (tN (tT (eCl rfl (c70 I hle))))) rfl (x0 (tAN n7 (tN (tT (eCl rfl (c71 I))))) rfl
    (xA (eCl (eCons (eAt rfl (I.gL (p := p))) rfl) k66) (x0 (tO (tsC (tNi (eAt rfl (I.gB (p := p))) (eK rfl rfl)) rfl (tsC (tNi (eM rfl (mS (p := p) rfl) (eCons (eAt rfl (I.gB (p := p))) rfl) k34) (eTlI (eK rfl rfl) (eK rfl rfl) I.N.dl)) rfl tsN))) rfl
      (x0 (tNe rfl (eCl (eCons (eK rfl rfl) (eCons (eBA (eK rfl rfl) rfl) (eCons (eTlN (eK rfl rfl)) rfl))) k65) rs_plain7 rfl) rfl rfl))))))⟩
def Lc (ns : List Int) (mo fi : Nat) (p : Sh) (l : Loc) : Prop := ∃ a7 a8 a9 aw al ar au aq ao, l = l78 ns mo fi p a7 a8 a9 aw al ar au aq ao
theorem turn (I : Iv (lds ns) L B) (hmo : B.most = mo) {l : Loc} (hl : Lc ns mo fi p l) : ∃ p' L' B' l', Iv (lds ns) L' B' ∧ B'.most = mo ∧ Lc ns mo fi p' l' ∧ execSs P (callN P (d + 7)) tb78 (l.set 7 (.val (.int k))) (HH p L (bkF B)) = .next l' (HH p' L' (bkF B')) := by
  obtain ⟨a7, a8, a9, aw, al, ar, au, aq, ao, rfl⟩ := hl
  obtain ⟨n, hn⟩ : ∃ n, n = draw ns (10 + 2 * k) 16000 := ⟨_, rfl⟩
  obtain ⟨x, hx⟩ : ∃ x, x = draw ns (11 + 2 * k) 4000 := ⟨_, rfl⟩
  have h4 : x % 4 < 4 := Nat.mod_lt _ (by decide)
  have hq : 3 - x % 4 < (lds ns).length := Nat.lt_of_le_of_lt (Nat.sub_le ..) (by decide : 3 < 4)
  obtain ⟨le, e⟩ : ∃ le, (lds ns)[3 - x % 4]? = some le := ⟨_, List.getElem?_eq_getElem hq⟩
  have hle : le ∈ lds ns := List.mem_of_getElem? e
  have ke : idxO (.list ((lds ns).map tl)) (.int ((3 - x % 4 : Nat) : Int)) = some (tl le) := idx_list (by rw [List.getElem?_map, e]; rfl)
  obtain ⟨w, hw⟩ : ∃ w, w = n % 8 := ⟨_, rfl⟩
  have hw8 : w < 8 := hw ▸ Nat.mod_lt _ (by decide)
  have T : Trn ns mo fi p L B d (.val (.int k)) (.val (.int n)) x w le au aq ao := by
    rcases (by lia : w < 2 ∨ w = 2 ∨ w = 3 ∨ (w = 4 ∨ w = 5) ∨ w = 6 ∨ w = 7) with h | h | h | h | h | h
    · exact t5a I hle h
    · exact t5b I hle h
    · exact t5c I h
    · exact t5d I h
    · exact t5e I hle h
    · by_cases q : x % 2 = 1
      · exact t5f I h q
      · exact t5g I hmo h q
  obtain ⟨p', L', B', au', I', hm, K⟩ := T
  obtain ⟨aq', ao', e6⟩ := t6 (d := d) (p := p') (mo := mo) (fi := fi) (k := k) (n := n) (a9 := .val (.int x)) (aw := .val (.int w)) (au := au') (aq := aq) (ao := ao) I' hle
  refine ⟨p', L', B', _, I', hm.trans hmo, ⟨_, _, _, _, _, _, _, _, _, rfl⟩, xA (eCl (eCons rfl (eCons (eBA rfl (eM2 rfl)) (eCons rfl rfl))) ((c63 (a := 10 + 2 * k) (lim := 16000) (by decide)).trans (by rw [← hn]))) (xA (eCl (eCons rfl (eCons (eBA rfl (eM2 rfl)) (eCons rfl rfl))) ((c63 (a := 11 + 2 * k) (lim := 4000) (by decide)).trans (by rw [← hx])))
    (xA ((eBM rfl rfl (by decide)).trans (by rw [← hw])) (xA (eIx rfl (eBS rfl (eBM rfl rfl (by decide)) (Nat.le_of_lt_succ h4)) ke) (xA rfl (K _ e6)))))⟩
theorem loop78 : ∀ (js : List Nat) {p : Sh} {L : Lg} {B : Bk} {l : Loc}, Iv (lds ns) L B → B.most = mo → Lc ns mo fi p l → ∃ p' L' B' l', Iv (lds ns) L' B' ∧ B'.most = mo ∧ Lc ns mo fi p' l' ∧ forM 7 (execSs P (callN P (d + 7)) tb78) (js.map fun (j : Nat) => MV.int (j : Int)) l (HH p L (bkF B)) = .next l' (HH p' L' (bkF B'))
  | [], p, L, B, l, I, hm, hl => ⟨p, L, B, l, I, hm, hl, rfl⟩
  | j :: js, p, L, B, l, I, hm, hl => by
    obtain ⟨p1, L1, B1, l1, I1, hm1, hl1, e1⟩ := turn (d := d) (k := j) I hm hl
    obtain ⟨p', L', B', l', I', hm', hl', e'⟩ := loop78 js I1 hm1 hl1
    exact ⟨p', L', B', l', I', hm', hl', fN e1 e'⟩
end Mini.L
namespace Mini.L
open Mini
variable {mo fi d : Nat} {ns : List Int}
noncomputable def bk0 (fi mo : Nat) : Bk := { now := [0, 1].take (fi + 1), base := fi, com := fi, app := fi, kept := fi, pend := false, disk := [0, 1].take (fi + 1), db := fi, out := none, most := mo }
theorem iv0 (h : fi < 2) : Iv (lds ns) (lg0 (stK fi) mo) (bk0 fi mo) := by
  have ok : ∀ {n}, n < 2 → Ok (lds ns) ([0, 1].take (n + 1)) := fun {n} hn => ⟨_, .head _, n + 1, by
    match n, hn with
    | 0, _ => rfl
    | 1, _ => rfl⟩
  have o := ok h
  match fi, h with
  | 0, _ => exact ⟨fam, ⟨rfl, rfl, rfl, rfl, rfl, rfl⟩, ⟨rfl, rfl, rfl, ⟨_, _, _, rfl⟩⟩, Nat.le_refl _, Nat.le_refl _, Nat.one_pos, Nat.le_refl _, Nat.one_pos, Nat.one_pos, fun h => (nomatch h), fun _ => ⟨rfl, Nat.one_pos, fun _ _ => rfl, fun _ => rfl⟩, fun h => (nomatch h), fun h => (nomatch h), o, o⟩
  | 1, _ => exact ⟨fam, ⟨rfl, rfl, rfl, rfl, rfl, rfl⟩, ⟨rfl, rfl, rfl, ⟨_, _, _, rfl⟩⟩, Nat.le_refl _, Nat.le_refl _, Nat.one_lt_two, Nat.le_refl _, Nat.one_lt_two, Nat.one_lt_two, fun h => (nomatch h), fun _ => ⟨rfl, Nat.one_lt_two, fun _ _ => rfl, fun _ => rfl⟩, fun h => (nomatch h), fun h => (nomatch h), o, o⟩
theorem law_run (ns : List Int) : ∃ H', callN P01.prg 12 78 [.list (ns.map .int)] [] = .ok (.bool true) H' := by
  obtain ⟨mo, hm⟩ : ∃ mo, mo = 4 + draw ns 1 14 := ⟨_, rfl⟩
  have hd : draw ns 0 2 < 2 := draw_lt (by decide)
  obtain ⟨fi, hf⟩ : ∃ fi, fi = 1 - draw ns 0 2 := ⟨_, rfl⟩
  have hf2 : fi < 2 := hf ▸ Nat.lt_of_le_of_lt (Nat.sub_le ..) (by decide)
  obtain ⟨p', L', B', l', I, hmo, hl, e⟩ := loop78 (d := 4) (ns := ns) (mo := mo) (fi := fi) (p := none) (l := l78 ns mo fi none .un .un .un .un .un .un .un .un .un) (List.range' 0 9) (iv0 hf2) rfl ⟨_, _, _, _, _, _, _, _, _, rfl⟩
  obtain ⟨a7, a8, a9, aw, al, ar, au, aq, ao, rfl⟩ := hl
  have h13 := I.l13
  have k65 := c65 (d := 9) (H := HH p' L' (bkF B')) (ts := B'.now) (m := B'.base + 1) (n := B'.now.length) (by have := I.bl; lia) (Nat.le_refl _) (Nat.le_trans h13 (by decide)) I.t256
  have k45 := c45 (p := p') (O := bkF B') (d := 4) I.gd I.bl
  rw [show B'.now.length - 1 - B'.base = B'.now.length - (B'.base + 1) by rw [Nat.sub_sub, Nat.add_comm]] at k45
  have kc : evalE P (callN P 11) (.new 2 (.cons (.bin .mul (.list (.cons (.int 1) .nil)) (.var 2)) (.cons (.list .nil) (.cons (.list .nil) (.cons (.list .nil) (.cons .ff .nil)))))) [.val (.list (ns.map .int)), .val (.int mo), .val (.int fi), .un, .un, .un, .un, .un, .un, .un, .un, .un, .un, .un, .un, .un] [] = .ok (cfK fi) [] := by
    match fi, hf2 with
    | 0, _ => exact eNewR (eCons (eTlR (i := 1) rfl rfl (by decide)) rfl) rfl rfl (callAt rfl rfl)
    | 1, _ => exact eNewR (eCons (eTlR (i := 1) rfl rfl (by decide)) rfl) rfl rfl (callAt rfl rfl)
  have kn : ∀ {l : Loc} {H : MH}, evalE P (callN P 11) (.var 2) l H = .ok (.int fi) H → evalE P (callN P 11) (.sliceU (.list (.cons (.int 0) (.cons (.int 1) .nil))) (.bin .add (.var 2) (.int 1))) l H = .ok (tl ([0, 1].take (fi + 1))) H := fun k => eTlU (a := [0, 1]) rfl (eBA k rfl) hf2
  have e0 : forM 7 (execSs P (callN P 11) tb78) ((List.range' 0 9).map fun (j : Nat) => MV.int (j : Int)) (l78 ns mo fi none .un .un .un .un .un .un .un .un .un) ([stO (stK fi), lgO 2 (lg0 (stK fi) mo), unO (lg0 (stK fi) mo)] ++ [⟨P.cls.length, [65, 66, 22, 23, 68, 67, 70, 71, 72, 69].zip [tl ([0, 1].take (fi + 1)), .int fi, .int fi, .int fi, .int fi, .bool false, tl ([0, 1].take (fi + 1)), .int fi, .none, .int mo]⟩]) = _ := e
  exact ⟨_, callAt rfl (runR rfl (xA ((eBA rfl (eCl rfl (c63 (a := 1) (lim := 14) (by decide)))).trans (by rw [← hm])) (xA ((eBS rfl (eCl rfl (c63 (a := 0) (lim := 2) (by decide))) (Nat.le_of_lt_succ hd)).trans (by rw [← hf]))
    (xA (eNewO (eCons kc rfl) rfl rfl (c14 (d := 9) (Nat.le_of_lt_succ hf2))) (xA (new6i (d := 8) (L := stK fi) (mx := mo) (eCons rfl (eCons rfl rfl))) (xA (eCl rfl (c68 (d := 9)))
      (xD (eCons (kn rfl) (eCons rfl (eCons rfl (eCons rfl (eCons rfl (eCons rfl (eCons (kn rfl) (eCons rfl (eCons rfl (eCons rfl rfl)))))))))) ⟨rfl, by decide, by decide⟩
        (xFn (iR1n rfl (by decide)) e0 (xR (eEs (eCl (eCons (eM rfl (mL (p := p') rfl) rfl k45) rfl) (c66 (Nat.le_trans (Nat.sub_le ..) (Nat.le_trans h13 (by decide))))) (eCl (eCons (eK rfl rfl) (eCons (eBA (eK rfl rfl) rfl) (eCons (eTlN (eK rfl rfl)) rfl))) k65) rs_plain7 rfl))))))))))⟩
end Mini.L
section
open PySem PySem.W PyProof.Rows Mini
namespace HD
noncomputable def cadr : List Addr := [213, 269, 304, 346, 451, 535, 745]
noncomputable def eadr : List Addr := [31, 44, 56, 68, 80, 92, 116, 128, 140, 152, 104]
noncomputable def fadr : List (Nat × Addr) := [(0, 161), (1, 168), (5, 224), (63, 756), (64, 761), (65, 766), (66, 771), (67, 778), (68, 785), (69, 792), (70, 797), (71, 804), (72, 809), (73, 816), (74, 823), (75, 830), (76, 837), (77, 844), (78, 851), (2, 182), (3, 189), (4, 210), (6, 238), (7, 245), (8, 252), (9, 287), (10, 294), (11, 322), (12, 329), (13, 336), (14, 364), (15, 378), (16, 385), (17, 392), (18, 399), (48, 406), (19, 420), (49, 427), (50, 434), (20, 441), (21, 448), (22, 469), (23, 476), (24, 483), (25, 490), (51, 497), (52, 504), (26, 511), (27, 518), (28, 525), (29, 532), (30, 553), (31, 560), (32, 567), (33, 574), (34, 581), (53, 588), (35, 595), (54, 602), (36, 609), (37, 616), (38, 623), (39, 630), (40, 637), (41, 644), (55, 651), (56, 658), (57, 665), (58, 672), (42, 679), (43, 686), (59, 693), (60, 700), (61, 707), (62, 714), (44, 721), (45, 728), (46, 735), (47, 742)]
noncomputable def tie (K : Frag) (hs : Str → Int) : Tie := ⟨K, P01.names, P01.gl, cadr, eadr, fadr, hs⟩
noncomputable def vs (f : Nat) : List Str := match flook f P01.fnames with
  | some p => p.2
  | none => []
noncomputable abbrev pw := PySem.Challenge.pw_no0419_01
noncomputable def runT (p : Program) (w : World) (n : Nat) : SharedT → Thread → Option SharedT :=
  @Nat.rec (fun _ => SharedT → Thread → Option SharedT) (fun _ _ => none) (fun _ ih s t => match through t with
    | true => some s
    | false => match PySem.W.Fast.tw6613529449190102663 11 (some (.ref 6)) t with
      | false => none
      | true => match PySem.W.Fast.tw10156331382660048174 (PySem.W.Fast.tw11892475500146522536 PySem.W.Fast.tw14364793385576792824) p w s t with
        | some x => ih x.1 x.2
        | none => none) n
theorem runT_spec {p : Program} {w : World} : ∀ {n : Nat} {s s' : SharedT} {t : Thread}, runT p w n s t = some s' → topRun treeTable p w 11 (some (.ref 6)) n s.abs t = some s'.abs
  | 0, _, _, _, h => nomatch h
  | n + 1, s, s', t, h => by
    have h : (match through t with
      | true => some s
      | false => match PySem.W.Fast.tw6613529449190102663 11 (some (.ref 6)) t with
        | false => none
        | true => match PySem.W.Fast.tw10156331382660048174 (PySem.W.Fast.tw11892475500146522536 PySem.W.Fast.tw14364793385576792824) p w s t with
          | some x => runT p w n x.1 x.2
          | none => none) = some s' := h
    rw [← PySem.W.Fast.te6613529449190102663, ← PySem.W.Fast.te10156331382660048174, ← PySem.W.Fast.te11892475500146522536, ← PySem.W.Fast.te14364793385576792824] at h
    unfold topRun
    cases ht : through t with
    | true => rw [ht] at h; cases h; rfl
    | false =>
      rw [ht] at h
      cases hk : stepOk 11 (some (.ref 6)) t with
      | false => rw [hk] at h; cases h
      | true =>
        rw [hk] at h
        cases hs : stepT (denote treeTable) p w s t with
        | none => rw [hs] at h; cases h
        | some r => obtain ⟨s₂, t₂⟩ := r; rw [hs] at h; rw [stepT_spec hs]; exact runT_spec h
noncomputable def S0 (P : Params) (os : OsState) : SharedT := ⟨(List.range 11).foldl (fun t i => t.ins i ((boot_heap P).objs.getD i default)) .nil, 11, (boot_heap P).life, #[], boot_drawn, boot_toks, os⟩
noncomputable def q : Program := { pw with main := { pw.main with body := pw.main.body.getLast?.toList } }
noncomputable def adr : List Addr := [3, 213, 212, 269, 268, 304, 303, 346, 345, 451, 450, 535, 534, 745, 744, 31, 30, 44, 43, 56, 55, 68, 67, 80, 79, 92, 91, 116, 115, 128, 127, 140, 139, 152, 151, 104, 103, 161, 160, 168, 167, 224, 223, 756, 755, 761, 760, 766, 765, 771, 770, 778, 777, 785, 784, 792, 791, 797, 796, 804, 803, 809, 808, 816, 815, 823, 822, 830, 829, 837, 836, 844, 843, 851, 850, 182, 181, 189, 188, 210, 209, 238, 237, 245, 244, 252, 251, 287, 286, 294, 293, 322, 321, 329, 328, 336, 335, 364, 363, 378, 377, 385, 384, 392, 391, 399, 398, 406, 405, 420, 419, 427, 426, 434, 433, 441, 440, 448, 447, 469, 468, 476, 475, 483, 482, 490, 489, 497, 496, 504, 503, 511, 510, 518, 517, 525, 524, 532, 531, 553, 552, 560, 559, 567, 566, 574, 573, 581, 580, 588, 587, 595, 594, 602, 601, 609, 608, 616, 615, 623, 622, 630, 629, 637, 636, 644, 643, 651, 650, 658, 657, 665, 664, 672, 671, 679, 678, 686, 685, 693, 692, 700, 699, 707, 706, 714, 713, 721, 720, 728, 727, 735, 734, 742, 741]
noncomputable def fragOf (s : Shared) : Frag := adr.filterMap fun a => (s.heap.get? a).map fun o => (a, o)
noncomputable def loose : List Str := (pw.main.scope.names.map (·.1)).filter fun x => !(x == Str.ofString "law")
noncomputable def mods : List Str := importedModules pw.main.body
noncomputable def paths : List (Nat × Nat) := [(15, 0), (19, 0), (20, 1), (20, 2), (20, 5), (21, 0), (22, 1), (22, 2), (22, 3), (23, 1), (23, 2), (24, 1), (24, 2), (24, 3), (26, 1), (26, 3), (26, 4), (26, 5), (26, 6), (26, 9), (26, 12), (26, 13), (27, 1), (27, 2), (27, 3), (27, 4), (27, 7), (27, 8), (27, 9), (27, 10), (28, 1), (28, 2), (28, 3), (28, 4), (28, 5), (28, 7), (28, 9), (28, 10), (28, 11), (28, 12), (28, 13), (28, 14), (28, 19), (28, 20), (28, 25), (28, 26), (28, 27), (28, 28), (26, 7), (26, 10), (26, 11), (27, 5), (27, 6), (28, 6), (28, 8), (28, 15), (28, 16), (28, 17), (28, 18), (28, 21), (28, 22), (28, 23), (28, 24), (30, 0), (31, 0), (32, 0), (33, 0), (34, 0), (35, 0), (36, 0), (37, 0), (38, 0), (39, 0), (40, 0), (41, 0), (42, 0), (43, 0), (44, 0), (45, 0)]
noncomputable def fnBody (s : Stmt) : List Stmt := match s with | .FunctionDef _ _ b .. => b | _ => []
noncomputable def clsBody (s : Stmt) : List Stmt := match s with | .ClassDef _ _ _ b .. => b | _ => []
noncomputable def bodies : List (List Stmt) := paths.map fun p => match pw.main.body[p.1]? with
  | none => []
  | some s => match p.2 with
    | 0 => fnBody s
    | n + 1 => match (clsBody s)[n]? with | some m => fnBody m | none => []
theorem len : bodies.length = 79 := by kernel_rfl
theorem exs_ok (K : Frag) (hs : Str → Int) : (P01.prg.funs.zip bodies).map (fun q => exFn P01.prg (tie K hs) q.1.2 q.2) = bodies := by kernel_rfl
theorem apart_ok : apart P01.prg P01.gl = true := by kernel_rfl
theorem nd_ok : decide P01.names.Nodup = true := by kernel_rfl
noncomputable def obs (s : Shared) (hs : Str → Int) : Bool × List (List Stmt) := (chkAll P01.prg (tie (fragOf s) hs) vs, P01.prg.funs.map fun p => bodyOf (tie (fragOf s) hs) p.1)
noncomputable def look (w : World) (s : Shared) : Bool := staticsOk mods (boot_heap w.params) s.heap && namesBound pw s.heap && gensDone s && laidKept (boot_heap w.params) s.heap
noncomputable abbrev rn (w : World) (os : OsState) : Option SharedT := runT pw w 7000 (S0 w.params os) (topStub pw)
noncomputable def atT (s : SharedT) (a : Addr) : Option Obj := match Nat.blt a s.n with
  | true => alive ((s.tree.get a).getD default)
  | false => none
theorem at_T (s : SharedT) (a : Addr) : s.abs.heap.get? a = atT s a := by
  show (absHeap s.tree s.n s.life).get? a = _
  unfold Heap.get? atT
  rw [absHeap_at]
  cases h : Nat.blt a s.n with
  | false => rw [if_neg (fun q => Bool.noConfusion (h.symm.trans (Nat.blt_eq.mpr q)))]
  | true =>
    rw [if_pos (Nat.blt_eq.mp h)]
    generalize (s.tree.get a).getD default = o
    obtain ⟨c, d, dt, sl⟩ := o
    cases dt <;> rfl
noncomputable def fragT (s : SharedT) : Frag := adr.filterMap fun a => (atT s a).map fun o => (a, o)
theorem frag_T (s : SharedT) : fragOf s.abs = fragT s := by
  unfold fragOf fragT
  exact congrArg (fun f => adr.filterMap f) (funext fun a => by rw [at_T])
theorem run_a (w : World) (os : OsState) : (rn w os).map (fun s => (look w s.abs, openSeen q loose mods (fun _ => true) true s.abs, fun hs => P01.gl.all (chkG (tie (fragT s) hs)) && (chkRow P01.prg.cls cadr (fun _ k C => chkCls (tie (fragT s) hs) k C) && chkRow eadr eadr (fun c _ C => chkExc P01.prg (tie (fragT s) hs) c C)))) = some (true, openGood q loose, fun _ => true) := by kernel_rfl
theorem run_c (w : World) (os : OsState) : (rn w os).map (fun s => fun hs => (P01.prg.funs.all fun p => chkFn P01.prg (tie (fragT s) hs) (vs p.1) p, P01.prg.funs.map fun p => bodyOf (tie (fragT s) hs) p.1)) = some (fun _ => (true, bodies)) := by kernel_rfl
theorem and_3 {a b c d : Bool} (h : (a && (b && c)) = true) (k : d = true) : (a && (b && (c && d))) = true := by rw [k, Bool.and_true]; exact h
theorem run (w : World) (os : OsState) : (rn w os).map (fun s => (look w s.abs, openSeen q loose mods (fun _ => true) true s.abs, obs s.abs)) = some (true, openGood q loose, fun _ => (true, bodies)) := by
  obtain ⟨s, r, a⟩ := Option.map_eq_some_iff.mp (run_a w os)
  obtain ⟨s2, r2, c⟩ := Option.map_eq_some_iff.mp (run_c w os)
  generalize rn w os = z at r r2 ⊢
  subst r
  cases r2
  obtain ⟨a1, a2⟩ := Prod.mk.inj a
  obtain ⟨a2, b⟩ := Prod.mk.inj a2
  rw [← frag_T] at b c
  have o : obs s.abs = fun _ => (true, bodies) := funext fun hs => by
    have b := congrFun b hs
    obtain ⟨c1, c2⟩ := Prod.mk.inj (congrFun c hs)
    exact Prod.ext (and_3 b c1) c2
  rw [Option.map_some, a1, a2, o]
end HD
end
section
open PySem PySem.W PyProof.Rows Mini
namespace HD
theorem s0 (w : World) (os : OsState) : (S0 w.params os).abs = ⟨boot_heap w.params, Array.mk [], boot_drawn, boot_toks, os⟩ := by kernel_rfl
theorem boot0 (w : World) : ((boot_heap w.params).isNs mainGlobals && (Array.mk [] : Array GenState).size == 0, (boot_heap w.params).objs.size, (boot_heap w.params).nsMap mainGlobals "__annotations__") = (true, 11, some (.ref 6)) := by kernel_rfl
theorem opens : opening pw = plainProg pw.main.scope.names := by kernel_rfl
theorem fences (s : Shared) : fenceModules? pw s = some s := by kernel_rfl
theorem left : LeftO pw q loose (fun _ => true) obs (fun _ _ => (true, bodies)) 7000 := fun w => by
  obtain ⟨⟨h, gs, d, k, os⟩, e, e'⟩ := Option.map_eq_some_iff.mp (boot_open (p := pw) (N := 7000) opens rfl fences w)
  obtain ⟨rfl, e'⟩ := Prod.mk.inj e'
  obtain ⟨rfl, e'⟩ := Prod.mk.inj e'
  obtain ⟨rfl, rfl⟩ := Prod.mk.inj e'
  obtain ⟨z1, z2⟩ := Prod.mk.inj (boot0 w)
  obtain ⟨z2, z3⟩ := Prod.mk.inj z2
  obtain ⟨s', r, e₂⟩ := Option.map_eq_some_iff.mp (run w os)
  have r := runT_spec r
  rw [s0] at r
  obtain ⟨l1, l2⟩ := Prod.mk.inj e₂
  have t : topFrom treeTable pw w 7000 ⟨boot_heap w.params, Array.mk [], boot_drawn, boot_toks, os⟩ = some s'.abs := by
    unfold topFrom
    dsimp only
    rw [z1, z2, z3, r, Option.bind_some]
    show (match look w s'.abs with | true => _ | false => _) = _
    rw [l1]
  unfold openEnds
  rw [e, Option.bind_some, t, Option.map_some]
  exact congrArg some l2
end HD
end
section
open PySem PySem.W PyProof.Rows Mini
namespace HD
theorem frag_in {h : Heap} : ∀ (as : List Addr), Frag.In (as.filterMap fun a => (h.get? a).map fun o => (a, o)) h
  | [], _, _, e => nomatch e
  | b :: as, a, o, e => by
    rw [List.filterMap_cons] at e
    cases q : h.get? b with
    | none => rw [q] at e; exact frag_in as a o e
    | some x =>
      rw [q] at e
      have e : List.lookup a ((b, x) :: as.filterMap fun a => (h.get? a).map fun o => (a, o)) = some o := e
      rw [List.lookup_cons] at e
      cases z : (a == b) with
      | true => rw [z] at e; cases e; rw [beq_iff_eq.mp z]; exact q
      | false => rw [z] at e; exact frag_in as a o e
noncomputable abbrev rw2 := PySem.Challenge.rw_no0419_01
theorem and_t {a b : Bool} (x : a = true) (y : b = true) : (a && b) = true := by rw [x, y]; rfl
noncomputable def lk1 : Look := { strict := !R.allR (Fast.tw5923862056798008813 pw.main.body) (Fast.tw3471404346716756564 Fast.tw17691160309236699985), foot := none, bare := R.filterR (Fast.tw13343964577679436407 pw pw.main.body) [{ cps := { toList := [118, 97, 114, 115] } }, { cps := { toList := [100, 105, 114] } }, { cps := { toList := [108, 111, 99, 97, 108, 115] } }] }
theorem sa1 : Fast.tw8326940854005059898 lk1 pw.main.body = true := by kernel_rfl
theorem sa2 : Fast.tw12908688711261696721 pw = true := by
  unfold Fast.tw12908688711261696721
  exact and_t (and_t (by kernel_rfl) sa1) (by kernel_rfl)
theorem sa3 : Fast.tw17960256430627541270 (Fast.tw2368527892694137696 rw2) = true := by
  unfold Fast.tw17960256430627541270
  refine and_t (and_t ?_ (by kernel_rfl)) (by kernel_rfl)
  unfold Fast.tw2436336058641802641
  iterate 13 refine and_t ?_ (by kernel_rfl)
  exact sa2
theorem said : rw2.wellSaid = true := (congrFun PySem.W.Fast.te9446332074065402090 rw2).trans (by
  unfold Fast.tw9446332074065402090
  iterate 18 refine and_t ?_ (by kernel_rfl)
  exact sa3)
theorem said2 : rw2.row.wellSaid = true := row_said said
theorem def1 : ((defOf q rw2.row.name).map fun x => ((some (x.1.params, x.1.body, x.1.scope) : Option _), kwWritten? x.1.params.kwonlyargs x.1.params.kw_defaults)) = some (rw2.row.prog.theDef rw2.row.name, (defOf q rw2.row.name).map (·.2)) := by kernel_rfl
theorem ok1 : (chainsOk q && opensWell rw2.row.prog && (frees rw2.row.toRowW && rw2.row.within.isEmpty)) = true := by kernel_rfl
noncomputable def says (_ : World) (h : Heap) : Prop := ∃ K : Frag, K.In h ∧ ∀ hs, chkAll P01.prg (tie K hs) vs = true ∧ (P01.prg.funs.map fun p => bodyOf (tie K hs) p.1) = bodies
theorem tabs1 : pw.tablesWhole = true := by kernel_rfl
theorem given1 : pw.given = { argv := [], stdin := [], environ := some Program.claimEnviron, cwd := none, tree := none, leftOut := [], nothingAt := [] } := by kernel_rfl
theorem bare1 : rw2.row.prog.bare := ⟨rfl, rfl, rfl, rfl, given1, tabs1⟩
theorem says_of (w : World) (s : Shared) (e : obs s = fun _ => (true, bodies)) : says w s.heap := ⟨fragOf s, frag_in adr, fun hs => Prod.mk.inj (congrFun e hs)⟩
theorem says_keep (w : World) (h h' : Heap) (x : says w h) (k : ∀ b o, h.get? b = some o → h'.get? b = some o) : says w h' := let ⟨K, a, b⟩ := x; ⟨K, a.keeps k, b⟩
theorem law_gl : P01.gl.lookup (Str.ofString "law") = some (.fn 78) := by kernel_rfl
theorem holds_of (law_run : ∀ ns : List Int, ns.length ≤ 63 → ∃ H', callN P01.prg 12 78 [.list (ns.map .int)] [] = .ok (.bool true) H') : rw2.Holds := by
  w_on
  refine holds_law said fun sd => ?_
  obtain ⟨⟨d, kwd⟩, hdef, e⟩ := Option.map_eq_some_iff.mp def1
  obtain ⟨e1, e2⟩ := Prod.mk.inj e
  rw [hdef] at e2
  refine holds_open (q := q) (loose := loose) (Xt := fun _ => true) (XP := fun _ _ => True) (Yf := obs) (Ya := fun _ _ => (true, bodies)) (YP := says) (N := 7000) left (fun w s e => says_of w s e) says_keep (fun _ _ => trivial) (fun _ _ _ _ _ => trivial) hdef e1.symm e2 (fun s _ => recFacts_nil rfl) rfl sd ok1 bare1 ?hw ?hc
  case hw => exact ⟨[.list [.int 3, .int 1]], by decide +kernel, by decide +kernel⟩
  intro w s₀ s₁ mg mb G Y fa o pm cd doc dV kV ho hd hcd hD hmg hg args vals as hpre hlay hrd hwl hlo
  obtain ⟨K, KX, S⟩ := Y
  clear hd ho hcd hD
  refine Ground.open G ?_
  intro T B D TE TW
  wrow_args hpre hlay hrd hwl hlo
  rename_i ns _ _ _ _ _ _ _ sl vl _ hL _ w1 _ hI _ hlen _
  have Sh : Shown P01.prg (tie K (PyData.keyHash w.params)) vs bodies := ⟨(S _).1, (S _).2, exs_ok K _, apart_ok, nd_ok⟩
  have hng : ∃ mg mb, s₁.heap.Ns mainGlobals mg ∧ s₁.heap.Ns builtinsNs mb ∧ ∀ x : Str, x ≠ "__name__" → mb x = bootBuiltins x := ⟨mg, mb, T.g, T.b, T.builtins⟩
  have TB := tab_of (prog := rw2.row.prog) (w := w) Sh KX hng T.nolimit (fun _ => rfl)
  obtain ⟨a, ha, hn, _⟩ := (tied_of Sh KX hng T.nolimit).fn (Str.ofString "law") 78 law_gl
  have hm : mg (Str.ofString "law") = some (.ref a) := mg_of KX T.g hn
  rw [show d.name = Str.ofString "law" from defOf_name hdef] at hmg
  cases hmg.symm.trans hm
  obtain ⟨H', hr⟩ := law_run ns (by omega)
  refine enter_call (codeAny_mono (codeAny_mono (law_ends TB (s₁ := s₁) rfl (x := Str.ofString "law") (lf := 78) (d := 12) ha law_gl (list_at w1 hL) hI (by omega) (by decide) hr) fun r s' h => ?_) (fun _ _ g => GoodW.toG g))
  obtain ⟨rfl, h1, h2, h3⟩ := h
  refine ⟨.inl ⟨.bool true, .bool true, [], rfl, ?_, .bool true, ?_, ?_⟩, h1, h2, h3.trans hg⟩
  · exact fun _ => rfl
  · wrow_post
  · exact unshared_nil
end HD
end
theorem PySem.Challenge.cw_no0419_01_holds : PySem.Challenge.rw_no0419_01.Holds :=
  HD.holds_of fun ns _ => Mini.L.law_run ns
