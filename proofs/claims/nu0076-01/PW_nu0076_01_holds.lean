import PyProof.Rows.All
import Wide.All
import OpenK.AllK
import Wide.FinOn
import PySem.Challenge.RW_nu0076_01
open PySem PySem.W PySem.Calls PyProof.Rows
set_option Elab.async false
set_option linter.unusedVariables false
set_option linter.unusedSimpArgs false
set_option maxRecDepth 100000
set_option genSizeOfSpec false
set_option genSizeOf false
set_option genCtorIdx false
set_option bootstrap.genMatcherCode false
namespace Mine
inductive V where
 | none | bool (b:Bool) | int (i:Int) | str (s:Str) | tup (l:List V) | lst (l:List V) | rng (a b c:Int) | ref (n:Nat)
set_option genCtorIdx true in
inductive Cell where
 | list (l:List V)
 | dict (kvs:List (Str × V))
 | tdict (kvs:List (List Str × V))
 | inst (c:Addr) (fs:List (Str × V))
 | pack (σ:List Cell)
noncomputable abbrev St:=List Cell
noncomputable abbrev Locs:=List (Str × V)
noncomputable def V.int?:V -> Option Int | .int i => some i | _ => Option.none
noncomputable def V.str?:V -> Option Str | .str i => some i | _ => Option.none
noncomputable def V.bool?:V -> Option Bool | .bool i => some i | _ => Option.none
noncomputable def V.tup?:V -> Option (List V) | .tup i => some i | _ => Option.none
noncomputable def V.lst?:V -> Option (List V) | .lst i => some i | _ => Option.none
noncomputable def V.ref?:V -> Option Nat | .ref i => some i | _ => Option.none
noncomputable def V.isNone:V -> Bool | .none => true | _ => false
noncomputable def V.rng?:V -> Option (Int × Int × Int) | .rng a b c => some (a,b,c) | _ => Option.none
noncomputable def Cell.list?:Cell -> Option (List V) | .list l => some l | _ => none
noncomputable def Cell.dict?:Cell -> Option (List (Str × V)) | .dict l => some l | _ => none
theorem V.int_of {v:V} {i:Int} (h:v.int? = some i):v = .int i:=by cases v <;> cases h; rfl
theorem V.str_of {v:V} {i:Str} (h:v.str? = some i):v = .str i:=by cases v <;> cases h; rfl
theorem V.bool_of {v:V} {i:Bool} (h:v.bool? = some i):v = .bool i:=by cases v <;> cases h; rfl
theorem V.tup_of {v:V} {i:List V} (h:v.tup? = some i):v = .tup i:=by cases v <;> cases h; rfl
theorem V.lst_of {v:V} {i:List V} (h:v.lst? = some i):v = .lst i:=by cases v <;> cases h; rfl
theorem V.ref_of {v:V} {i:Nat} (h:v.ref? = some i):v = .ref i:=by cases v <;> cases h; rfl
theorem Cell.list_of {v:Cell} {l:List V} (h:v.list? = some l):v = .list l:=by cases v <;> cases h; rfl
theorem Cell.dict_of {v:Cell} {l:List (Str × V)} (h:v.dict? = some l):v = .dict l:=by cases v <;> cases h; rfl
noncomputable def lstAt (σ:St) (n:Nat):Option (List V):=(σ[n]?).bind Cell.list?
noncomputable def dictAt (σ:St) (n:Nat):Option (List (Str × V)):=(σ[n]?).bind Cell.dict?
theorem bind_of {α β:Type} {o:Option α} {f:α -> Option β} {b:β} (h:o.bind f = some b):∃ a,o = some a /\ f a = some b:=by cases o with | none => cases h | some a => exact ⟨a,rfl,h⟩
theorem lstAt_of {σ:St} {n:Nat} {l:List V} (h:lstAt σ n = some l):σ[n]? = some (.list l):=by
 obtain ⟨c,e,h⟩:=bind_of h; rw [e,Cell.list_of h]
theorem dictAt_of {σ:St} {n:Nat} {l:List (Str × V)} (h:dictAt σ n = some l):σ[n]? = some (.dict l):=by
 obtain ⟨c,e,h⟩:=bind_of h; rw [e,Cell.dict_of h]
theorem lstAt_eq {σ:St} {n:Nat} {l:List V} (h:σ[n]? = some (.list l)):lstAt σ n = some l:=by unfold lstAt; rw [h]; rfl
theorem dictAt_eq {σ:St} {n:Nat} {l:List (Str × V)} (h:σ[n]? = some (.dict l)):dictAt σ n = some l:=by unfold dictAt; rw [h]; rfl
noncomputable def upd:Locs -> Str -> V -> Locs
 | [],x,v => [(x,v)]
 | (y,u) :: r,x,v => if y = x then (y,v) :: r else (y,u) :: upd r x v
noncomputable def getL (σ:St):V -> Option (List V)
 | .lst l => some l
 | .ref n => lstAt σ n
 | _ => none
noncomputable def itemsOf (σ:St):V -> Option (List V)
 | .lst l => some l
 | .tup l => some l
 | .str s => some (s.cps.toList.map fun c => .str ⟨#[c]⟩)
 | .rng a b c => if Builtin.Range.small a b c = true then some ((List.range (Builtin.Range.rangeSize a b c).toNat).map fun (i:Nat) => .int (a + i * c)) else none
 | .ref n => lstAt σ n
 | _ => none
noncomputable def big:Nat:=1000000
set_option genCtorIdx true in
inductive Out where
 | ok (v:V) (σ:St) | bad
noncomputable def oO {α:Type} (o:Option α) (f:α -> Out):Out:=match o with
 | some a => f a
 | none => .bad
noncomputable def okS (s:Str) (σ:St):Out:=if s.length <= sizeLine then .ok (.str s) σ else .bad
noncomputable def okL (mk:Bool) (l:List V) (σ:St):Out:=if l.length <= big then (match mk with
 | true => .ok (.ref σ.length) (σ ++ [.list l])
 | false => .ok (.lst l) σ) else .bad
noncomputable def okI (c:Prop) [Decidable c] (v:V) (σ:St):Out:=if c then .ok v σ else .bad
noncomputable def addF (mk:Bool) (a b:V) (σ:St):Out:=match a with
 | .int x => oO b.int? fun y => .ok (.int (x + y)) σ
 | .str x => oO b.str? fun y => okS (x ++ y) σ
 | a => oO (getL σ a) fun l => oO (getL σ b) fun m => okL mk (l ++ m) σ
noncomputable def mulF (mk:Bool) (a b:V) (σ:St):Out:=match a with
 | .int x => oO b.int? fun y => okI (x.natAbs < 2 ^ 64 \/ y.natAbs < 2 ^ 64) (.int (x * y)) σ
 | a => oO a.lst? fun l => oO b.int? fun y => if (y = 0 \/ y = 1) /\ l.length <= big then okL mk (if y = 1 then l else []) σ else .bad
noncomputable def int2 (a b:V) (f:Int -> Int -> Out):Out:=oO a.int? fun x => oO b.int? fun y => f x y
noncomputable def binF (mk:Bool) (op:Operator) (a b:V) (σ:St):Out:=match op with
 | .Add => addF mk a b σ
 | .Sub => int2 a b fun x y => .ok (.int (x - y)) σ
 | .Mult => mulF mk a b σ
 | .FloorDiv => int2 a b fun x y => okI (0 < y /\ y < 2 ^ 60) (.int (Int.fdiv x y)) σ
 | .Mod => int2 a b fun x y => okI (0 < y) (.int (Int.fmod x y)) σ
 | .Pow => int2 a b fun x y => okI (x = 10 /\ y = 18) (.int (10 ^ 18)) σ
 | _ => .bad
mutual
noncomputable def eqV:V -> V -> Option Bool
 | .none,b => bif b.isNone then some true else Option.none
 | .bool a,b => b.bool?.map (a == ·)
 | .int a,b => b.int?.map fun b => decide (a = b)
 | .str a,b => b.str?.map fun b => decide (a = b)
 | .tup l,b => b.tup?.bind fun m => eqVs l m
 | .lst l,b => b.lst?.bind fun m => if l.length = m.length then eqVs l m else some false
 | .rng ..,_ => Option.none
 | .ref _,_ => Option.none
noncomputable def eqVs:List V -> List V -> Option Bool
 | [],m => match m with
  | [] => some true
  | _ :: _ => none
 | a :: l,m => match m with
  | [] => none
  | b :: m => (eqV a b).bind fun c => match c with
   | true => eqVs l m
   | false => some false
end
mutual
noncomputable def V.lvl:V -> Nat -> Bool
 | .tup l,n => match n with | 0 => false | n + 1 => V.lvls l n
 | .lst l,n => match n with | 0 => false | n + 1 => V.lvls l n
 | .ref _,_ => false
 | .rng ..,_ => false
 | .none,_ => true
 | .bool _,_ => true
 | .int _,_ => true
 | .str _,_ => true
noncomputable def V.lvls:List V -> Nat -> Bool
 | [],_ => true
 | v :: r,n => V.lvl v n && V.lvls r n
end
noncomputable def eqL (l m:List V):Option Bool:=if l.length ≠ m.length then some false else bif V.lvls l 7 && V.lvls m 7 then eqVs l m else none
noncomputable def eqQ (σ:St) (a b:V):Option Bool:=match getL σ a with
 | some l => match getL σ b with
  | some m => eqL l m
  | none => none
 | none => bif V.lvl a 8 && V.lvl b 8 then eqV a b else none
noncomputable def sIn (y x:Str):Bool:=!(Builtin.Str.occurrences x y 0 x.length 1).isEmpty
noncomputable def strsOf:List V -> Option (List Str)
 | [] => some []
 | v :: r => v.str?.bind fun s => (strsOf r).map (s :: ·)
noncomputable def strsIn (x:Str) (l:List V):Option Bool:=(strsOf l).map fun ss => decide (x ∈ ss)
noncomputable def inS (σ:St) (y:Str):V -> Option Bool
 | .str x => some (sIn y x)
 | .tup l => strsIn y l
 | .lst l => strsIn y l
 | .ref n => (dictAt σ n).map fun kvs => (kvs.lookup y).isSome
 | _ => none
noncomputable def inT (ss:List Str):Cell -> Option Bool
 | .dict kvs => bif kvs.isEmpty then some false else none
 | .tdict kvs => some (kvs.lookup ss).isSome
 | _ => none
noncomputable def inQ (σ:St) (a b:V):Option Bool:=match a with
 | .str y => inS σ y b
 | .tup ks => b.ref?.bind fun n => (strsOf ks).bind fun ss => (σ[n]?).bind (inT ss)
 | _ => none
noncomputable def cmp2 (a b:V) (f:Int -> Int -> Bool):Option Bool:=a.int?.bind fun x => b.int?.map fun y => f x y
noncomputable def leQ (a b:V):Option Bool:=match a with
 | .str x => b.str?.map fun y => !decide (y.cps.toList < x.cps.toList)
 | a => cmp2 a b fun x y => decide (x <= y)
noncomputable def cmpQ (σ:St) (op:CmpOp) (a b:V):Option Bool:=match op with
 | .Eq => eqQ σ a b
 | .NotEq => (eqQ σ a b).map not
 | .Lt => cmp2 a b fun x y => decide (x < y)
 | .LtE => leQ a b
 | .Gt => cmp2 a b fun x y => decide (x > y)
 | .GtE => cmp2 a b fun x y => decide (x ≥ y)
 | .Is => bif b.isNone then some a.isNone else none
 | .IsNot => bif b.isNone then some !a.isNone else none
 | .In => inQ σ a b
 | .NotIn => (inQ σ a b).map not
noncomputable def place (n:Nat) (i:Int):Option Nat:=if -(2 ^ 63) <= i /\ i < 2 ^ 63 then seqIndex? i n else none
noncomputable def sIdx (x y:Str) (i:Nat):Option Nat:=(Builtin.Str.occurrences x y i x.length 1).head?
noncomputable def chAt (x:Str) (j:Option Nat):Option V:=j.bind fun j => (x.cps[j]?).map fun c => .str ⟨#[c]⟩
noncomputable def atL (l:List V) (j:Option Nat):Option V:=j.bind fun j => l[j]?
noncomputable def subR (σ:St) (n:Nat):V -> Option V
 | .int k => (lstAt σ n).bind fun l => atL l (place l.length k)
 | .str s => (dictAt σ n).bind fun kvs => kvs.lookup s
 | _ => none
noncomputable def subF (σ:St) (a i:V):Option V:=match a with
 | .str x => i.int?.bind fun k => chAt x (place x.length k)
 | .tup l => i.int?.bind fun k => atL l (place l.length k)
 | .lst l => i.int?.bind fun k => atL l (place l.length k)
 | .ref n => subR σ n i
 | _ => none
noncomputable def partI:V -> Option (Option Int)
 | .none => some none
 | .int i => some (some i)
 | _ => none
noncomputable def sliceV (l:List V) (lo hi st:Option Int):List V :=
 (PySem.sliceRange (sliceBounds lo hi st l.length).1 (sliceBounds lo hi st l.length).2.1 (sliceBounds lo hi st l.length).2.2).filterMap (l[·]?)
noncomputable def cutF (mk:Bool) (a:V) (l u k:Option Int) (σ:St):Out:=match a with
 | .str x => okI (k = none /\ x.length <= sizeLine) (.str (Txt.slice x l u)) σ
 | y => oO (getL σ y) fun xs => if k ≠ some 0 /\ xs.length <= big then okL mk (sliceV xs l u k) σ else .bad
noncomputable def sliceF (mk:Bool) (a lo hi st:V) (σ:St):Out:=oO (partI lo) fun l => oO (partI hi) fun u => oO (partI st) fun k => cutF mk a l u k σ
noncomputable def instAt:Cell -> Option (Addr × List (Str × V))
 | .inst c fs => some (c,fs)
 | _ => none
theorem instAt_of {c:Cell} {p:Addr × List (Str × V)} (h:instAt c = some p):c = .inst p.1 p.2:=by cases c <;> cases h; rfl
noncomputable def attrF (σ:St) (a:V) (x:Str) (cs:List Addr):Option V:=a.ref?.bind fun n => ((σ[n]?).bind instAt).bind fun p => bif cs.contains p.1 then p.2.lookup x else none
set_option genCtorIdx true in
inductive BF where | len | chr | ord | max | int | str | list | tuple | dict | range
set_option genCtorIdx true in
inductive BM where | split | index | join | pop | append | get
noncomputable def lenF (σ:St) (v:V):Option Nat:=match v with
 | .str x => some x.length
 | .tup l => some l.length
 | v => (getL σ v).map List.length
noncomputable def a1 {α:Type} (l:List V) (d:α) (f:V -> α):α:=match l with
 | [v] => f v
 | _ => d
noncomputable def a2 {α:Type} (l:List V) (d:α) (f:V -> V -> α):α:=match l with
 | [v,u] => f v u
 | _ => d
noncomputable def intF (v:V) (σ:St):Out:=match v with
 | .int i => .ok (.int i) σ
 | .bool b => .ok (.int (if b then 1 else 0)) σ
 | .str s => if s = "9" then .ok (.int 9) σ else if s = "10" then .ok (.int 10) σ else okI (s = "13") (.int 13) σ
 | _ => .bad
noncomputable def one? (l:List Nat):Option Nat:=match l with
 | [c] => some c
 | _ => none
noncomputable def rngF (args:List V) (σ:St):Out:=match args with
 | [b] => oO b.int? fun b => okI (b <= big) (.rng 0 b 1) σ
 | [a,b,c] => oO a.int? fun a => oO b.int? fun b => oO c.int? fun c => okI (0 <= a /\ b <= big /\ 0 < c /\ c <= big) (.rng a b c) σ
 | _ => .bad
noncomputable def bfF (mk:Bool) (b:BF) (args:List V) (σ:St):Out:=match b with
 | .len => a1 args .bad fun v => oO (lenF σ v) fun n => okI (n <= big) (.int n) σ
 | .chr => a1 args .bad fun v => oO v.int? fun i => okI (0 <= i /\ i < 128) (.str ⟨#[i.toNat]⟩) σ
 | .ord => a1 args .bad fun v => oO v.str? fun s => oO (one? s.cps.toList) fun c => .ok (.int c) σ
 | .max => a2 args .bad fun u v => int2 u v fun a b => .ok (.int (max a b)) σ
 | .int => a1 args .bad fun v => intF v σ
 | .str => a1 args .bad fun v => oO v.int? fun i => okI (i = 9 \/ i = 10 \/ i = 13) (.str (Str.ofString (toString i))) σ
 | .list => a1 args .bad fun v => oO (getL σ v) fun l => okL mk l σ
 | .tuple => a1 args .bad fun v => oO (getL σ v) fun l => okI (l.length <= big) (.tup l) σ
 | .dict => a1 args .bad fun v => oO (v.ref?.bind (dictAt σ)) fun kvs => if kvs.length <= big then .ok (.ref σ.length) (σ ++ [.dict kvs]) else .bad
 | .range => rngF args σ
noncomputable def splitF (mk:Bool) (x:Str) (args:List V) (σ:St):Out:=match args with
 | [y] => oO y.str? fun y => if y.length = 1 /\ x.length <= big then okL mk ((Txt.split x y).map .str) σ else .bad
 | [y,k] => oO y.str? fun y => if y.length = 1 /\ k.int? = some 1 /\ x.length <= big then okL mk ((Txt.splitMax x y 1).map .str) σ else .bad
 | _ => .bad
noncomputable def indexF (x:Str) (args:List V) (σ:St):Out:=match args with
 | [y] => oO y.str? fun y => oO (sIdx x y 0) fun i => .ok (.int i) σ
 | [y,k] => oO y.str? fun y => oO k.int? fun k => if 0 <= k then oO (sIdx x y k.toNat) fun i => .ok (.int i) σ else .bad
 | _ => .bad
noncomputable def getD (kvs:List (Str × V)) (args:List V) (σ:St):Out:=match args with
 | [s] => oO s.str? fun s => .ok ((kvs.lookup s).getD .none) σ
 | [s,d] => oO s.str? fun s => .ok ((kvs.lookup s).getD d) σ
 | _ => .bad
noncomputable def bmF (mk:Bool) (b:BM) (a:V) (args:List V) (σ:St):Out:=match b with
 | .split => oO a.str? fun x => splitF mk x args σ
 | .index => oO a.str? fun x => indexF x args σ
 | .join => oO a.str? fun x => a1 args .bad fun v => oO (getL σ v) fun l => oO (strsOf l) fun ss => okI (JoinOk x ss = true) (.str (Txt.join x ss)) σ
 | .pop => oO a.ref? fun n => bif args.isEmpty then oO (lstAt σ n) fun l => oO l.getLast? fun v => okI (l.dropLast.length < big) v (σ.set n (.list l.dropLast)) else .bad
 | .append => oO a.ref? fun n => a1 args .bad fun v => oO (lstAt σ n) fun l => okI (l.length < big) .none (σ.set n (.list (l ++ [v])))
 | .get => oO a.ref? fun n => oO (dictAt σ n) fun kvs => getD kvs args σ
noncomputable def BM.onL:BM -> Bool
 | .pop => true
 | .append => true
 | _ => false
noncomputable def BM.onS:BM -> Bool
 | .split => true
 | .index => true
 | .join => true
 | _ => false
noncomputable def BM.onD:BM -> Bool
 | .get => true
 | _ => false
inductive SelR where
 | fn (f:Addr) | pk (f:Addr) | bm
noncomputable def pickF (m:Str) (ms:List (Addr × Addr)) (p:Addr × List (Str × V)):Option Addr:=bif (p.2.lookup m).isNone then ms.lookup p.1 else none
noncomputable def bmS (q:BM -> Bool) (b:Option BM):Option SelR:=b.bind fun b => bif q b then some .bm else none
noncomputable def selC (m:Str) (ms:List (Addr × Addr)) (b:Option BM):Cell -> Option SelR
 | .inst c fs => (pickF m ms (c,fs)).map .fn
 | .pack σL => (((σL[0]?:Option Cell)).bind instAt).bind fun p => (pickF m ms p).map .pk
 | .list _ => bmS BM.onL b
 | .dict _ => bmS BM.onD b
 | .tdict _ => none
noncomputable def selF (m:Str) (ms:List (Addr × Addr)) (b:Option BM) (a:V) (σ:St):Option SelR:=match a with
 | .ref n => (σ[n]?).bind (selC m ms b)
 | .str _ => bmS BM.onS b
 | _ => none
noncomputable def replF (y z:Str) (a:V) (σ:St):Out:=oO a.str? fun x => okI (x.length <= big) (.str (Txt.replace x y z)) σ
mutual
noncomputable def V.noref:V -> Bool
 | .tup l => V.norefs l
 | .lst l => V.norefs l
 | .ref _ => false
 | .none => true
 | .bool _ => true
 | .int _ => true
 | .str _ => true
 | .rng .. => true
noncomputable def V.norefs:List V -> Bool
 | [] => true
 | v :: r => V.noref v && V.norefs r
end
mutual
noncomputable def V.nolst:V -> Bool
 | .tup l => V.nolsts l
 | .lst _ => false
 | .ref _ => true
 | .none => true
 | .bool _ => true
 | .int _ => true
 | .str _ => true
 | .rng .. => true
noncomputable def V.nolsts:List V -> Bool
 | [] => true
 | v :: r => V.nolst v && V.nolsts r
end
mutual
noncomputable def V.closed (m:Nat):V -> Bool
 | .tup l => V.closeds m l
 | .lst l => V.closeds m l
 | .ref n => decide (n < m)
 | .none => true
 | .bool _ => true
 | .int _ => true
 | .str _ => true
 | .rng .. => true
noncomputable def V.closeds (m:Nat):List V -> Bool
 | [] => true
 | v :: r => V.closed m v && V.closeds m r
end
mutual
noncomputable def V.eqb:V -> V -> Bool
 | .none,b => b.isNone
 | .bool a,b => b.bool? == some a
 | .int a,b => b.int? == some a
 | .str a,b => b.str? == some a
 | .tup l,b => b.tup?.any fun m => V.eqbs l m
 | .lst l,b => b.lst?.any fun m => V.eqbs l m
 | .rng a b c,x => x.rng? == some (a,b,c)
 | .ref n,b => b.ref? == some n
noncomputable def V.eqbs:List V -> List V -> Bool
 | [],m => m.isEmpty
 | a :: l,m => match m with
  | [] => false
  | b :: m => V.eqb a b && V.eqbs l m
end
noncomputable def Cell.nolst:Cell -> Bool
 | .list l => V.nolsts l
 | .dict kvs => kvs.all fun p => p.2.nolst
 | .tdict kvs => kvs.all fun p => p.2.nolst
 | .inst _ fs => fs.all fun p => p.2.nolst
 | .pack _ => false
noncomputable def Cell.closed (m:Nat):Cell -> Bool
 | .list l => V.closeds m l
 | .dict kvs => kvs.all fun p => p.2.closed m
 | .tdict kvs => kvs.all fun p => p.2.closed m
 | .inst _ fs => fs.all fun p => match fs.lookup p.1 with
  | some v => v.closed m
  | none => true
 | .pack _ => true
noncomputable def keepB (v:V) (items:List V) (σ:St):Bool:=match v with
 | .ref n => (lstAt σ n).any fun l => V.eqbs l items
 | _ => true
noncomputable def setTC (ss:List Str) (v:V):Cell -> Option Cell
 | .dict kvs => bif kvs.isEmpty then some (.tdict [(ss,v)]) else none
 | .tdict kvs => if kvs.length < big /\ kvs.lookup ss = none then some (.tdict (kvs ++ [(ss,v)])) else none
 | _ => none
noncomputable def setR (σ:St) (n:Nat) (i v:V):Option Cell:=match i with
 | .int k => (lstAt σ n).bind fun l => if 0 <= k /\ k < 2 ^ 63 /\ k.toNat < l.length then some (.list (l.set k.toNat v)) else none
 | .str s => (dictAt σ n).bind fun kvs => if kvs.length < big then some (.dict (upd kvs s v)) else none
 | .tup ks => (strsOf ks).bind fun ss => (σ[n]?).bind (setTC ss v)
 | _ => none
noncomputable def setItemF (a i v:V) (σ:St):Option St:=a.ref?.bind fun n => (setR σ n i v).map fun c => σ.set n c
noncomputable def setAttrF (a:V) (x:Str) (cs:List Addr) (v:V) (σ:St):Option St:=a.ref?.bind fun n => ((σ[n]?).bind instAt).bind fun p => if cs.contains p.1 = true /\ p.2.length < big then some (σ.set n (.inst p.1 (upd p.2 x v))) else none
set_option genInjectivity false
mutual
inductive CE where
 | fail
 | const (v:V)
 | var (i:Nat)
 | bin (mk:Bool) (op:Operator) (a b:CE)
 | not (a:CE)
 | neg (a:CE)
 | and (a b:CE)
 | or (a b:CE)
 | ite (t a b:CE)
 | cmp (a:CE) (ops:List CmpOp) (rs:CEs)
 | list (mk:Bool) (es:CEs)
 | tup (es:CEs)
 | dict (ks:List Str) (es:CEs)
 | attr (e:CE) (x:Str) (cs:List Addr)
 | slice (mk:Bool) (e lo hi st:CE)
 | sub (e i:CE)
 | fn (f:Addr) (args:CEs) (kn:List Str) (kws:CEs)
 | cls (c f:Addr) (args:CEs)
 | bf (mk:Bool) (b:BF) (args:CEs)
 | meth (mk:Bool) (o:CE) (m:Str) (ms:List (Addr × Addr)) (b:Option BM) (args:CEs) (kn:List Str) (kws:CEs)
 | repl (o:CE) (y z:Str)
 | comp (mk:Bool) (src:CE) (keep:List Nat) (elt:CE)
 | compIf (mk:Bool) (src:CE) (keep:List Nat) (c elt:CE)
inductive CEs where
 | nil | cons (a:CE) (r:CEs)
end
mutual
inductive CS where
 | fail
 | expr (e:CE)
 | ret (e:CE)
 | setattr (o:CE) (x:Str) (cs:List Addr) (e:CE)
 | setitem (o i e:CE)
 | asg (i:Nat) (e:CE)
 | asg2 (i j:Nat) (e:CE)
 | ite (t:CE) (b o:CSs)
 | while (t:CE) (b:CSs)
 | for1 (i:Nat) (it:CE) (b:CSs)
 | for2 (i j:Nat) (it:CE) (b:CSs)
 | raise (c:Addr) (e:CE)
 | try (b:CSs) (c:Addr) (h:CSs)
inductive CSs where
 | nil | cons (a:CS) (r:CSs)
end
noncomputable abbrev Fr:=List (Option V)
noncomputable def getF:Fr -> Nat -> Option V
 | [],_ => none
 | a :: r,i => match i with
  | 0 => a
  | n + 1 => getF r n
noncomputable def setF:Fr -> Nat -> V -> Fr
 | [],_,_ => []
 | a :: r,i,v => match i with
  | 0 => some v :: r
  | n + 1 => a :: setF r n v
noncomputable abbrev Comp:=(V -> St -> Prop) -> (Addr -> St -> Prop) -> Prop
noncomputable abbrev RunT:=Addr -> List V -> List (Str × V) -> St -> Comp
structure Cx where
 call:RunT
 inner:RunT
 packed:Addr -> Bool
 wf:Nat
noncomputable abbrev KX:=Addr -> Fr -> St -> Prop
structure PX where
 ret:V -> St -> Prop
 exc:KX
structure EE where
 cx:Cx
 P:PX
noncomputable abbrev KE:=V -> EE -> Fr -> St -> Prop
noncomputable abbrev KN:=EE -> Fr -> St -> Prop
inductive El (e:EE) (fr:Fr) (o:Out) (K:KE):Prop | mk (v:V) (σ:St) (q:o = .ok v σ) (h:K v e fr σ)
inductive ElO {α:Type} (o:Option α) (e:EE) (fr:Fr) (σ:St) (K:α -> EE -> Fr -> St -> Prop):Prop | mk (a:α) (q:o = some a) (h:K a e fr σ)
inductive Ca (c:Comp) (e:EE) (fr:Fr) (K:KE):Prop | mk (h:c (fun v σ => K v e fr σ) fun a σ => e.P.exc a fr σ)
inductive Br (b:Bool) (A B:Prop):Prop | t (e:b = true) (h:A) | f (e:b = false) (h:B)
noncomputable def vK (o:Option V) (e:EE) (fr:Fr) (σ:St) (K:KE):Prop:=match o with
 | some v => K v e fr σ
 | none => False
noncomputable def tK (v:V) (k:Bool -> Prop):Prop:=match v with
 | .bool b => k b
 | _ => False
noncomputable def sK (v:V) (k:Prop):Prop:=match v with
 | .str _ => k
 | _ => False
noncomputable def iK (v:V) (k:Int -> Prop):Prop:=match v with
 | .int i => k i
 | _ => False
noncomputable def bleK (n m:Nat) (k:Prop):Prop:=match Nat.ble n m with
 | true => k
 | false => False
noncomputable def mkK (mk:Bool) (l:List V) (e:EE) (fr:Fr) (σ:St) (K:KE):Prop:=match mk with
 | true => K (.ref σ.length) e fr (σ ++ [.list l])
 | false => K (.lst l) e fr σ
noncomputable def asg2K (i j:Nat) (v:V) (e:EE) (fr:Fr) (σ:St) (N:KN):Prop:=match v with
 | .tup l => a2 l False fun a b => N e (setF (setF fr i a) j b) σ
 | _ => False
@[reducible] noncomputable def opQ (ops:List CmpOp) (σ:St) (l b:V):Option Bool:=match ops with
 | [] => none
 | op :: _ => cmpQ σ op l b
noncomputable def lastK (ops:List CmpOp) (A B:Prop):Prop:=match ops with
 | [] => False
 | _ :: r => match r with
  | [] => A
  | _ :: _ => B
@[irreducible] noncomputable def innF (cx:Cx) (f:Addr) (a:V) (args:List V) (kw:List (Str × V)) (σ:St):Comp:=fun K _ => ∃ n σL,a = .ref n /\ σ[n]? = some (.pack σL) /\ V.norefs args = true /\ V.norefs (kw.map (·.2)) = true /\
 cx.inner f (.ref 0 :: args) kw σL (fun v σL' => v.noref = true /\ σL'.all Cell.nolst = true /\ K v (σ.set n (.pack σL'))) (fun _ _ => False)
@[irreducible] noncomputable def clsF (cx:Cx) (c f:Addr) (args:List V) (σ:St):Comp:=fun K _ => match cx.packed c with
 | true => V.norefs args = true /\ cx.inner f (.ref 0 :: args) [] [.inst c []] (fun v σL => v.noref = true /\ σL.all Cell.nolst = true /\ v = .none /\ K (.ref σ.length) (σ ++ [.pack σL])) (fun _ _ => False)
 | false => cx.call f (.ref σ.length :: args) [] (σ ++ [.inst c []]) (fun v σ' => v = .none /\ K (.ref σ.length) σ') (fun _ _ => False)
noncomputable def methP (mk:Bool) (r:SelR) (b:Option BM) (a:V) (args:List V) (kw:List (Str × V)) (e:EE) (fr:Fr) (σ:St) (K:KE):Prop:=match r with
 | .fn f => Ca (e.cx.call f (a :: args) kw σ) e fr K
 | .pk f => Ca (innF e.cx f a args kw σ) e fr K
 | .bm => match kw with
  | [] => match b with
   | some b => El e fr (bmF mk b a args σ) K
   | none => False
  | _ :: _ => False
noncomputable def accF (acc:List V):Option V -> List V
 | some v => acc ++ [v]
 | none => acc
noncomputable def noX:KX:=fun _ _ _ => False
noncomputable def EE.no (e:EE):EE:=⟨e.cx,e.P.ret,noX⟩
noncomputable def EE.to (e:EE) (R:V -> St -> Prop):EE:=⟨e.cx,R,noX⟩
noncomputable def retN:V -> EE -> Fr -> St -> Prop:=fun v e _ σ => e.P.ret v σ
noncomputable def compP (keep:St -> Bool) (body:V -> St -> (Option V -> St -> Prop) -> Prop):List V -> List V -> EE -> Fr -> St -> (List V -> EE -> Fr -> St -> Prop) -> Prop
 | [],acc,e,fr,σ,K => keep σ = true /\ K acc e fr σ
 | x :: xs,acc,e,fr,σ,K => (keep σ = true /\ acc.length <= big) /\ body x σ fun r σ => compP keep body xs (accF acc r) e fr σ K
mutual
noncomputable def ev:CE -> EE -> Fr -> St -> KE -> Prop
 | .fail,_,_,_,_ => False
 | .const v,e,fr,σ,K => K v e fr σ
 | .var i,e,fr,σ,K => vK (getF fr i) e fr σ K
 | .bin mk op a b,e,fr,σ,K => ev a e fr σ fun x e fr σ => ev b e fr σ fun y e fr σ => El e fr (binF mk op x y σ) K
 | .not a,e,fr,σ,K => ev a e fr σ fun v e fr σ => tK v fun b => K (.bool !b) e fr σ
 | .neg a,e,fr,σ,K => ev a e fr σ fun v e fr σ => iK v fun i => K (.int (-i)) e fr σ
 | .and a b,e,fr,σ,K => ev a e fr σ fun v e fr σ => tK v fun c => Br c (ev b e fr σ K) (K (.bool false) e fr σ)
 | .or a b,e,fr,σ,K => ev a e fr σ fun v e fr σ => tK v fun c => Br c (K (.bool true) e fr σ) (ev b e fr σ K)
 | .ite t a b,e,fr,σ,K => ev t e fr σ fun v e fr σ => tK v fun c => Br c (ev a e fr σ K) (ev b e fr σ K)
 | .cmp a ops rs,e,fr,σ,K => ev a e fr σ fun v e fr σ => evC rs v ops e fr σ K
 | .list mk es,e,fr,σ,K => evs es e fr σ fun vs e fr σ => bleK vs.length big (mkK mk vs e fr σ K)
 | .tup es,e,fr,σ,K => evs es e fr σ fun vs e fr σ => bleK vs.length big (K (.tup vs) e fr σ)
 | .dict ks es,e,fr,σ,K => evs es e.no fr σ fun vs _ fr σ => ks.length = vs.length /\ K (.ref σ.length) e fr (σ ++ [.dict (ks.zip vs)])
 | .attr a x cs,e,fr,σ,K => ev a e fr σ fun a e fr σ => ElO (attrF σ a x cs) e fr σ K
 | .slice mk a lo hi st,e,fr,σ,K => ev a e fr σ fun a e fr σ => ev lo e fr σ fun l e fr σ => ev hi e fr σ fun h e fr σ => ev st e fr σ fun s e fr σ => El e fr (sliceF mk a l h s σ) K
 | .sub a i,e,fr,σ,K => ev a e fr σ fun a e fr σ => ev i e fr σ fun j e fr σ => ElO (subF σ a j) e fr σ K
 | .fn f args kn kws,e,fr,σ,K => evs args e fr σ fun vs e fr σ => evs kws e fr σ fun ks e fr σ => Ca (e.cx.call f vs (kn.zip ks) σ) e fr K
 | .cls c f args,e,fr,σ,K => evs args e fr σ fun vs e fr σ => Ca (clsF e.cx c f vs σ) e fr K
 | .bf mk b args,e,fr,σ,K => evs args e fr σ fun vs e fr σ => El e fr (bfF mk b vs σ) K
 | .meth mk o m ms b args kn kws,e,fr,σ,K => ev o e fr σ fun a e fr σ => ElO (selF m ms b a σ) e fr σ fun r e fr σ => evs args e fr σ fun vs e fr σ => evs kws e fr σ fun ks e fr σ => methP mk r b a vs (kn.zip ks) e fr σ K
 | .repl o y z,e,fr,σ,K => ev o e fr σ fun a e fr σ => El e fr (replF y z a σ) K
 | .comp mk src keep elt,e,fr,σ,K => ev src e fr σ fun v e fr σ => ElO (itemsOf σ v) e fr σ fun items e fr σ =>
   compP (keepB v items) (fun x σ R => ev elt (e.to fun y σ => R (some y) σ) (some x :: keep.map (getF fr)) σ retN) items [] e fr σ fun vs e fr σ => El e fr (okL mk vs σ) K
 | .compIf mk src keep c elt,e,fr,σ,K => ev src e fr σ fun v e fr σ => ElO (itemsOf σ v) e fr σ fun items e fr σ =>
   compP (keepB v items) (fun x σ R => ev c (e.to fun y σ => R (some y) σ) (some x :: keep.map (getF fr)) σ fun t e fr σ => tK t fun b => Br b (ev elt e fr σ retN) (R none σ)) items [] e fr σ fun vs e fr σ => El e fr (okL mk vs σ) K
noncomputable def evs:CEs -> EE -> Fr -> St -> (List V -> EE -> Fr -> St -> Prop) -> Prop
 | .nil,e,fr,σ,K => K [] e fr σ
 | .cons a r,e,fr,σ,K => ev a e fr σ fun v e fr σ => evs r e fr σ fun vs e fr σ => K (v :: vs) e fr σ
noncomputable def evC:CEs -> V -> List CmpOp -> EE -> Fr -> St -> KE -> Prop
 | .nil,_,_,_,_,_,_ => False
 | .cons a r,l,ops,e,fr,σ,K => ev a e fr σ fun b e fr σ => ElO (opQ ops σ l b) e fr σ fun c e fr σ => lastK ops (K (.bool c) e fr σ) (Br c (evC r b ops.tail e fr σ K) (K (.bool false) e fr σ))
end
noncomputable abbrev SC:=EE -> Fr -> St -> KN -> Prop
noncomputable def forP (keep:St -> Bool) (body:V -> SC):List V -> SC
 | [],e,fr,σ,N => keep σ = true /\ N e fr σ
 | x :: xs,e,fr,σ,N => keep σ = true /\ body x e.no fr σ fun _ fr σ => forP keep body xs e fr σ N
noncomputable def whileP (test:EE -> Fr -> St -> KE -> Prop) (body:SC):Nat -> SC
 | 0,_,_,_,_ => False
 | n + 1,e,fr,σ,N => test e fr σ fun v e fr σ => tK v fun b => Br b (body e fr σ fun e fr σ => whileP test body n e fr σ N) (N e fr σ)
noncomputable def EE.catch (e:EE) (c:Addr) (H:Fr -> St -> Prop):EE:=⟨e.cx,e.P.ret,fun c' fr σ => c' = c /\ H fr σ⟩
mutual
noncomputable def evS:CS -> SC
 | .fail,_,_,_,_ => False
 | .expr a,e,fr,σ,N => ev a e fr σ fun _ e fr σ => N e fr σ
 | .ret a,e,fr,σ,_ => ev a e fr σ retN
 | .setattr o x cs a,e,fr,σ,N => ev a e fr σ fun v e fr σ => ev o e fr σ fun a e fr σ => ElO (setAttrF a x cs v σ) e fr σ fun σ e fr _ => N e fr σ
 | .setitem o i a,e,fr,σ,N => ev a e fr σ fun v e fr σ => ev o e fr σ fun a e fr σ => ev i e fr σ fun j e fr σ => ElO (setItemF a j v σ) e fr σ fun σ e fr _ => N e fr σ
 | .asg i a,e,fr,σ,N => ev a e fr σ fun v e fr σ => N e (setF fr i v) σ
 | .asg2 i j a,e,fr,σ,N => ev a e fr σ fun v e fr σ => asg2K i j v e fr σ N
 | .ite t b o,e,fr,σ,N => ev t e fr σ fun v e fr σ => tK v fun c => Br c (evSs b e fr σ N) (evSs o e fr σ N)
 | .while t b,e,fr,σ,N => whileP (ev t) (evSs b) e.cx.wf e fr σ N
 | .for1 i it b,e,fr,σ,N => ev it e fr σ fun src e fr σ => ElO (itemsOf σ src) e fr σ fun items e fr σ => forP (keepB src items) (fun x e fr σ N => evSs b e (setF fr i x) σ N) items e fr σ N
 | .for2 i j it b,e,fr,σ,N => ev it e fr σ fun src e fr σ => ElO (itemsOf σ src) e fr σ fun items e fr σ => forP (keepB src items) (fun x e fr σ N => asg2K i j x e fr σ fun e fr σ => evSs b e fr σ N) items e fr σ N
 | .raise c a,e,fr,σ,_ => ev a e fr σ fun v e fr σ => sK v (e.P.exc c fr σ)
 | .try b c h,e,fr,σ,N => evSs b (e.catch c fun fr σ => evSs h e.no fr σ fun _ fr σ => N e fr σ) fr σ fun _ fr σ => N e fr σ
noncomputable def evSs:CSs -> SC
 | .nil,e,fr,σ,N => N e fr σ
 | .cons s r,e,fr,σ,N => evS s e fr σ fun e fr σ => evSs r e fr σ N
end
structure CF where
 np:Nat
 last:Str
 df:List V
 nl:Nat
 body:CSs
 drop:Bool
noncomputable def bindF (c:CF) (args:List V) (kw:List (Str × V)):Option (List V):=match kw with
 | [] => if args.length = c.np then some args else if args.length + c.df.length = c.np then some (args ++ c.df) else none
 | [(x,v)] => if args.length + 1 = c.np /\ x = c.last /\ c.df.length = 1 then some (args ++ [v]) else none
 | _ => none
noncomputable def dropF (d:Bool) (σ:St) (v:V) (σ':St):St:=match d with
 | false => σ'
 | true => if σ.length <= σ'.length /\ v.closed σ.length = true /\ (σ'.take σ.length).all (Cell.closed σ.length) = true then σ'.take σ.length else σ'
noncomputable def frame:List V -> Nat -> Fr
 | [],n => List.replicate n none
 | v :: r,n => some v :: frame r n
noncomputable def endN:KN:=fun e _ σ => e.P.ret .none σ
noncomputable def runF (cx:Cx) (c:CF) (args:List V) (kw:List (Str × V)) (σ:St):Comp:=fun K X => match bindF c args kw with
 | some vs => evSs c.body ⟨cx,fun v σ' => K v (dropF c.drop σ v σ'),fun a _ σ' => X a σ'⟩ (frame vs c.nl) σ endN
 | none => False
noncomputable abbrev Fns:=Addr -> Option CF
noncomputable def noRun:RunT:=fun _ _ _ _ _ _ => False
noncomputable def runC (o:Option CF) (f:CF -> Comp):Comp:=fun K X => match o with
 | some c => f c K X
 | none => False
noncomputable def run0 (F:Fns) (wf:Nat):Nat -> RunT
 | 0 => noRun
 | n + 1 => fun f args kw σ => runC (F f) fun c => runF ⟨run0 F wf n,noRun,fun _ => false,wf⟩ c args kw σ
noncomputable def run1 (F:Fns) (pk:Addr -> Bool) (wf:Nat):Nat -> RunT
 | 0 => noRun
 | n + 1 => fun f args kw σ => runC (F f) fun c => runF ⟨run1 F pk wf n,run0 F wf n,pk,wf⟩ c args kw σ
noncomputable def T (l:List Nat):Str:=⟨l.toArray⟩
noncomputable def isPacked (c:Addr):Bool:=c == 536 || c == 303
noncomputable def isExc (c:Addr):Bool:=c == 51 || c == 63
noncomputable def c72:CF:=⟨1,"sign",[],0,(.cons (.ite (.cmp (.var 0) [.Eq] (.cons (.const (.str (T [38]))) .nil)) (.cons (.ret (.const (.str (T [38,97,109,112,59])))) .nil) .nil) (.cons (.ite (.cmp (.var 0) [.Eq] (.cons (.const (.str (T [60]))) .nil)) (.cons (.ret (.const (.str (T [38,108,116,59])))) .nil) .nil) (.cons (.ite (.cmp (.var 0) [.Eq] (.cons (.const (.str (T [62]))) .nil)) (.cons (.ret (.const (.str (T [38,103,116,59])))) .nil) .nil) (.cons (.ite (.cmp (.var 0) [.Eq] (.cons (.const (.str (T [13]))) .nil)) (.cons (.ret (.const (.str (T [38,35,49,51,59])))) .nil) .nil) (.cons (.ret (.var 0)) .nil))))),false⟩
noncomputable def c79:CF:=⟨1,"sign",[],0,(.cons (.ite (.cmp (.var 0) [.Eq] (.cons (.const (.str (T [38]))) .nil)) (.cons (.ret (.const (.str (T [38,97,109,112,59])))) .nil) .nil) (.cons (.ite (.cmp (.var 0) [.Eq] (.cons (.const (.str (T [60]))) .nil)) (.cons (.ret (.const (.str (T [38,108,116,59])))) .nil) .nil) (.cons (.ite (.cmp (.var 0) [.Eq] (.cons (.const (.str (T [34]))) .nil)) (.cons (.ret (.const (.str (T [38,113,117,111,116,59])))) .nil) .nil) (.cons (.ite (.cmp (.var 0) [.In] (.cons (.const (.str (T [9,10,13]))) .nil)) (.cons (.ret (.bin false .Add (.bin false .Add (.const (.str (T [38,35]))) (.bf false .str (.cons (.bf false .ord (.cons (.var 0) .nil)) .nil))) (.const (.str (T [59]))))) .nil) .nil) (.cons (.ret (.var 0)) .nil))))),false⟩
noncomputable def c84:CF:=⟨1,"text",[],0,(.cons (.ret (.meth false (.const (.str (T []))) "join" [] (some .join) (.cons (.comp false (.var 0) [] (.fn 72 (.cons (.var 0) .nil) [] .nil)) .nil) [] .nil)) .nil),false⟩
noncomputable def c89:CF:=⟨1,"text",[],0,(.cons (.ret (.meth false (.const (.str (T []))) "join" [] (some .join) (.cons (.comp false (.var 0) [] (.fn 79 (.cons (.var 0) .nil) [] .nil)) .nil) [] .nil)) .nil),false⟩
noncomputable def c96:CF:=⟨1,"name",[],0,(.cons (.ret (.ite (.cmp (.const (.str (T [58]))) [.In] (.cons (.var 0) .nil)) (.sub (.meth false (.var 0) "split" [] (some .split) (.cons (.const (.str (T [58]))) .nil) [] .nil) (.const (.int 0))) (.const (.str (T []))))) .nil),false⟩
noncomputable def c103:CF:=⟨1,"value",[],0,(.cons (.ite (.or (.cmp (.const (.str (T [45,45]))) [.In] (.cons (.var 0) .nil)) (.or (.cmp (.slice false (.var 0) (.neg (.const (.int 1))) (.const (.none)) (.const (.none))) [.Eq] (.cons (.const (.str (T [45]))) .nil)) (.const (.bool false)))) (.cons (.raise 63 (.const (.str "a comment with two hyphens, or one at its end"))) .nil) .nil) (.cons (.ret (.bin false .Add (.bin false .Add (.const (.str (T [60,33,45,45]))) (.var 0)) (.const (.str (T [45,45,62]))))) .nil)),false⟩
noncomputable def c110:CF:=⟨2,"data",[],0,(.cons (.ite (.cmp (.const (.str (T [63,62]))) [.In] (.cons (.var 1) .nil)) (.cons (.raise 63 (.const (.str "an instruction with its end within"))) .nil) .nil) (.cons (.ret (.bin false .Add (.bin false .Add (.bin false .Add (.const (.str (T [60,63]))) (.var 0)) (.ite (.cmp (.var 1) [.NotEq] (.cons (.const (.str (T []))) .nil)) (.bin false .Add (.const (.str (T [32]))) (.var 1)) (.const (.str (T []))))) (.const (.str (T [63,62]))))) .nil)),false⟩
noncomputable def c117:CF:=⟨2,"node",[],1,(.cons (.asg 2 (.meth false (.var 0) "kind" [(536,456)] .none (.cons (.var 1) .nil) [] .nil)) (.cons (.ite (.cmp (.var 2) [.Eq] (.cons (.const (.str "text")) .nil)) (.cons (.ret (.fn 84 (.cons (.meth false (.var 0) "value" [(536,484)] .none (.cons (.var 1) .nil) [] .nil) .nil) [] .nil)) .nil) .nil) (.cons (.ite (.cmp (.var 2) [.Eq] (.cons (.const (.str "comment")) .nil)) (.cons (.ret (.fn 103 (.cons (.meth false (.var 0) "value" [(536,484)] .none (.cons (.var 1) .nil) [] .nil) .nil) [] .nil)) .nil) .nil) (.cons (.ite (.cmp (.var 2) [.Eq] (.cons (.const (.str "instruction")) .nil)) (.cons (.ret (.fn 110 (.cons (.meth false (.var 0) "name" [(536,463)] .none (.cons (.var 1) .nil) [] .nil) (.cons (.meth false (.var 0) "value" [(536,484)] .none (.cons (.var 1) .nil) [] .nil) .nil)) [] .nil)) .nil) .nil) (.cons (.raise 63 (.const (.str "such a node is not written by itself"))) .nil))))),false⟩
noncomputable def c122:CF:=⟨3,"scope",[],6,(.cons (.asg 4 (.comp true (.meth false (.var 0) "namespaces" [(536,512)] .none (.cons (.var 1) .nil) [] .nil) [0] (.tup (.cons (.meth false (.var 1) "name" [(536,463)] .none (.cons (.var 0) .nil) [] .nil) (.cons (.meth false (.var 1) "value" [(536,484)] .none (.cons (.var 0) .nil) [] .nil) .nil))))) (.cons (.asg 5 (.bf false .dict (.cons (.var 2) .nil))) (.cons (.for2 6 7 (.var 4) (.cons (.setitem (.var 5) (.var 6) (.var 7)) .nil)) (.cons (.asg 8 (.list true (.cons (.tup (.cons (.fn 96 (.cons (.meth false (.var 0) "name" [(536,463)] .none (.cons (.var 1) .nil) [] .nil) .nil) [] .nil) (.cons (.meth false (.var 0) "uri" [(536,470)] .none (.cons (.var 1) .nil) [] .nil) .nil))) .nil))) (.cons (.for1 3 (.meth false (.var 0) "attributes" [(536,505)] .none (.cons (.var 1) .nil) [] .nil) (.cons (.asg2 6 7 (.tup (.cons (.fn 96 (.cons (.meth false (.var 0) "name" [(536,463)] .none (.cons (.var 3) .nil) [] .nil) .nil) [] .nil) (.cons (.meth false (.var 0) "uri" [(536,470)] .none (.cons (.var 3) .nil) [] .nil) .nil)))) (.cons (.ite (.cmp (.var 6) [.NotEq] (.cons (.const (.str (T []))) .nil)) (.cons (.expr (.meth false (.var 8) "append" [] (some .append) (.cons (.tup (.cons (.var 6) (.cons (.var 7) .nil))) .nil) [] .nil)) .nil) (.cons (.ite (.cmp (.var 7) [.NotEq] (.cons (.const (.str (T []))) .nil)) (.cons (.raise 63 (.const (.str "an attribute with a namespace and no prefix"))) .nil) .nil) .nil)) .nil))) (.cons (.for2 6 7 (.var 8) (.cons (.ite (.cmp (.meth false (.var 5) "get" [] (some .get) (.cons (.var 6) (.cons (.const (.str (T []))) .nil)) [] .nil) [.NotEq] (.cons (.var 7) .nil)) (.cons (.ite (.or (.and (.cmp (.var 6) [.NotEq] (.cons (.const (.str (T []))) .nil)) (.and (.cmp (.var 7) [.Eq] (.cons (.const (.str (T []))) .nil)) (.const (.bool true)))) (.or (.cmp (.var 6) [.In] (.cons (.comp false (.var 4) [] (.sub (.var 0) (.const (.int 0)))) .nil)) (.const (.bool false)))) (.cons (.raise 63 (.const (.str "a prefix that is bound to something else"))) .nil) .nil) (.cons (.setitem (.var 5) (.var 6) (.var 7)) (.cons (.expr (.meth false (.var 4) "append" [] (some .append) (.cons (.tup (.cons (.var 6) (.cons (.var 7) .nil))) .nil) [] .nil)) .nil))) .nil) .nil)) (.cons (.ret (.var 4)) .nil))))))),false⟩
noncomputable def c129:CF:=⟨4,"is_empty",[],4,(.cons (.asg 4 (.bin false .Add (.const (.str (T [60]))) (.meth false (.var 0) "name" [(536,463)] .none (.cons (.var 1) .nil) [] .nil))) (.cons (.for2 5 6 (.var 2) (.cons (.asg 4 (.bin false .Add (.bin false .Add (.bin false .Add (.bin false .Add (.var 4) (.ite (.cmp (.var 5) [.Eq] (.cons (.const (.str (T []))) .nil)) (.const (.str (T [32,120,109,108,110,115]))) (.bin false .Add (.const (.str (T [32,120,109,108,110,115,58]))) (.var 5)))) (.const (.str (T [61,34])))) (.fn 89 (.cons (.var 6) .nil) [] .nil)) (.const (.str (T [34]))))) .nil)) (.cons (.for1 7 (.meth false (.var 0) "attributes" [(536,505)] .none (.cons (.var 1) .nil) [] .nil) (.cons (.asg 4 (.bin false .Add (.bin false .Add (.bin false .Add (.bin false .Add (.bin false .Add (.var 4) (.const (.str (T [32])))) (.meth false (.var 0) "name" [(536,463)] .none (.cons (.var 7) .nil) [] .nil)) (.const (.str (T [61,34])))) (.fn 89 (.cons (.meth false (.var 0) "value" [(536,484)] .none (.cons (.var 7) .nil) [] .nil) .nil) [] .nil)) (.const (.str (T [34]))))) .nil)) (.cons (.ret (.bin false .Add (.var 4) (.ite (.var 3) (.const (.str (T [47,62]))) (.const (.str (T [62])))))) .nil)))),false⟩
noncomputable def c136:CF:=⟨2,"pairs",[],3,(.cons (.asg 2 (.bf false .dict (.cons (.var 0) .nil))) (.cons (.for2 3 4 (.var 1) (.cons (.setitem (.var 2) (.var 3) (.var 4)) .nil)) (.cons (.ret (.var 2)) .nil))),false⟩
noncomputable def c142:CF:=⟨3,"declaration",[.bool false],7,(.cons (.asg 3 (.ite (.var 2) (.list true (.cons (.const (.str (T [60,63,120,109,108,32,118,101,114,115,105,111,110,61,34,49,46,48,34,32,101,110,99,111,100,105,110,103,61,34,85,84,70,45,56,34,63,62,10]))) .nil)) (.list true .nil))) (.cons (.ite (.cmp (.meth false (.var 0) "kind" [(536,456)] .none (.cons (.var 1) .nil) [] .nil) [.Eq] (.cons (.const (.str "root")) .nil)) (.cons (.asg 4 (.comp true (.slice false (.meth false (.var 0) "children" [(536,498)] .none (.cons (.var 1) .nil) [] .nil) (.const (.none)) (.const (.none)) (.neg (.const (.int 1)))) [] (.tup (.cons (.var 0) (.cons (.dict ["xml"] (.cons (.const (.str (T [104,116,116,112,58,47,47,119,119,119,46,119,51,46,111,114,103,47,88,77,76,47,49,57,57,56,47,110,97,109,101,115,112,97,99,101]))) .nil)) .nil))))) .nil) (.cons (.asg 4 (.list true (.cons (.tup (.cons (.var 1) (.cons (.dict ["xml"] (.cons (.const (.str (T [104,116,116,112,58,47,47,119,119,119,46,119,51,46,111,114,103,47,88,77,76,47,49,57,57,56,47,110,97,109,101,115,112,97,99,101]))) .nil)) .nil))) .nil))) .nil)) (.cons (.while (.cmp (.var 4) [.NotEq] (.cons (.list false .nil) .nil)) (.cons (.asg2 5 6 (.meth false (.var 4) "pop" [] (some .pop) .nil [] .nil)) (.cons (.ite (.cmp (.var 6) [.Is] (.cons (.const (.none)) .nil)) (.cons (.expr (.meth false (.var 3) "append" [] (some .append) (.cons (.bin false .Add (.bin false .Add (.const (.str (T [60,47]))) (.meth false (.var 0) "name" [(536,463)] .none (.cons (.var 5) .nil) [] .nil)) (.const (.str (T [62])))) .nil) [] .nil)) .nil) (.cons (.ite (.cmp (.meth false (.var 0) "kind" [(536,456)] .none (.cons (.var 5) .nil) [] .nil) [.NotEq] (.cons (.const (.str "element")) .nil)) (.cons (.expr (.meth false (.var 3) "append" [] (some .append) (.cons (.fn 117 (.cons (.var 0) (.cons (.var 5) .nil)) [] .nil) .nil) [] .nil)) .nil) (.cons (.asg 7 (.fn 122 (.cons (.var 0) (.cons (.var 5) (.cons (.var 6) .nil))) [] .nil)) (.cons (.asg 8 (.meth false (.var 0) "children" [(536,498)] .none (.cons (.var 5) .nil) [] .nil)) (.cons (.expr (.meth false (.var 3) "append" [] (some .append) (.cons (.fn 129 (.cons (.var 0) (.cons (.var 5) (.cons (.var 7) (.cons (.cmp (.var 8) [.Eq] (.cons (.list false .nil) .nil)) .nil)))) [] .nil) .nil) [] .nil)) (.cons (.ite (.cmp (.var 8) [.NotEq] (.cons (.list false .nil) .nil)) (.cons (.asg 9 (.fn 136 (.cons (.var 6) (.cons (.var 7) .nil)) [] .nil)) (.cons (.expr (.meth false (.var 4) "append" [] (some .append) (.cons (.tup (.cons (.var 5) (.cons (.const (.none)) .nil))) .nil) [] .nil)) (.cons (.asg 4 (.bin true .Add (.var 4) (.comp false (.slice false (.var 8) (.const (.none)) (.const (.none)) (.neg (.const (.int 1)))) [9] (.tup (.cons (.var 0) (.cons (.var 1) .nil)))))) .nil))) .nil) .nil))))) .nil)) .nil))) (.cons (.ret (.meth false (.const (.str (T []))) "join" [] (some .join) (.cons (.var 3) .nil) [] .nil)) .nil)))),true⟩
noncomputable def c173:CF:=⟨1,"sign",[],0,(.cons (.ret (.cmp (.const (.str (T [97]))) [.LtE,.LtE] (.cons (.var 0) (.cons (.const (.str (T [122]))) .nil)))) .nil),false⟩
noncomputable def c180:CF:=⟨1,"sign",[],0,(.cons (.ite (.cmp (.bf false .ord (.cons (.var 0) .nil)) [.Lt] (.cons (.const (.int 128)) .nil)) (.cons (.ret (.or (.fn 173 (.cons (.var 0) .nil) [] .nil) (.or (.cmp (.const (.str (T [65]))) [.LtE,.LtE] (.cons (.var 0) (.cons (.const (.str (T [90]))) .nil))) (.or (.cmp (.var 0) [.Eq] (.cons (.const (.str (T [95]))) .nil)) (.cmp (.var 0) [.Eq] (.cons (.const (.str (T [58]))) .nil)))))) .nil) .nil) (.cons (.ret .fail) .nil)),false⟩
noncomputable def c187:CF:=⟨1,"sign",[],0,(.cons (.ite (.fn 180 (.cons (.var 0) .nil) [] .nil) (.cons (.ret (.const (.bool true))) .nil) .nil) (.cons (.ite (.cmp (.bf false .ord (.cons (.var 0) .nil)) [.Lt] (.cons (.const (.int 128)) .nil)) (.cons (.ret (.or (.cmp (.const (.str (T [48]))) [.LtE,.LtE] (.cons (.var 0) (.cons (.const (.str (T [57]))) .nil))) (.or (.cmp (.var 0) [.Eq] (.cons (.const (.str (T [45]))) .nil)) (.cmp (.var 0) [.Eq] (.cons (.const (.str (T [46]))) .nil))))) .nil) .nil) (.cons (.ret .fail) .nil))),false⟩
noncomputable def c194:CF:=⟨1,"text",[],1,(.cons (.for1 1 (.var 0) (.cons (.ite (.not (.fn 187 (.cons (.var 1) .nil) [] .nil)) (.cons (.ret (.const (.bool false))) .nil) .nil) .nil)) (.cons (.ret (.cmp (.var 0) [.NotEq] (.cons (.const (.str (T []))) .nil))) .nil)),false⟩
noncomputable def c201:CF:=⟨1,"text",[],0,(.cons (.ret (.and (.cmp (.var 0) [.NotEq] (.cons (.const (.str (T []))) .nil)) (.and (.fn 180 (.cons (.sub (.var 0) (.const (.int 0))) .nil) [] .nil) (.fn 194 (.cons (.var 0) .nil) [] .nil)))) .nil),false⟩
noncomputable def c208:CF:=⟨1,"text",[],0,(.cons (.ret (.and (.cmp (.const (.str (T [58]))) [.NotIn] (.cons (.var 0) .nil)) (.fn 201 (.cons (.var 0) .nil) [] .nil))) .nil),false⟩
noncomputable def c215:CF:=⟨1,"name",[],2,(.cons (.asg 1 (.meth false (.var 0) "split" [] (some .split) (.cons (.const (.str (T [58]))) .nil) [] .nil)) (.cons (.ite (.cmp (.bf false .len (.cons (.var 1) .nil)) [.Gt] (.cons (.const (.int 2)) .nil)) (.cons (.raise 51 (.bin false .Add (.const (.str "a name with more than one colon: ")) (.var 0))) .nil) .nil) (.cons (.for1 2 (.var 1) (.cons (.ite (.not (.fn 208 (.cons (.var 2) .nil) [] .nil)) (.cons (.raise 51 (.bin false .Add (.const (.str "a name with a wrong part: ")) (.var 0))) .nil) .nil) .nil)) (.cons (.ite (.cmp (.bf false .len (.cons (.var 1) .nil)) [.Eq] (.cons (.const (.int 1)) .nil)) (.cons (.ret (.tup (.cons (.const (.str (T []))) (.cons (.var 0) .nil)))) .nil) .nil) (.cons (.ret (.tup (.cons (.sub (.var 1) (.const (.int 0))) (.cons (.sub (.var 1) (.const (.int 1))) .nil)))) .nil))))),false⟩
noncomputable def c222:CF:=⟨1,"name",[],0,(.cons (.ite (.cmp (.var 0) [.Eq] (.cons (.const (.str (T [120,109,108,110,115]))) .nil)) (.cons (.ret (.const (.str (T [])))) .nil) .nil) (.cons (.ite (.cmp (.var 0) [.Eq] (.cons (.const (.str (T [120,109,108,110,115,58]))) .nil)) (.cons (.raise 51 (.const (.str "a declaration without a prefix"))) .nil) .nil) (.cons (.ite (.cmp (.slice false (.var 0) (.const (.none)) (.const (.int 6)) (.const (.none))) [.Eq] (.cons (.const (.str (T [120,109,108,110,115,58]))) .nil)) (.cons (.ret (.slice false (.var 0) (.const (.int 6)) (.const (.none)) (.const (.none)))) .nil) .nil) (.cons (.ret (.const (.none))) .nil)))),false⟩
noncomputable def c229:CF:=⟨2,"uri",[],0,(.cons (.ite (.cmp (.var 0) [.Eq] (.cons (.const (.str (T [120,109,108,110,115]))) .nil)) (.cons (.raise 51 (.const (.str "the prefix xmlns may not be declared"))) .nil) .nil) (.cons (.ite (.cmp (.var 0) [.Eq] (.cons (.const (.str (T [120,109,108]))) .nil)) (.cons (.ite (.cmp (.var 1) [.NotEq] (.cons (.const (.str (T [104,116,116,112,58,47,47,119,119,119,46,119,51,46,111,114,103,47,88,77,76,47,49,57,57,56,47,110,97,109,101,115,112,97,99,101]))) .nil)) (.cons (.raise 51 (.const (.str "the prefix xml is bound for good"))) .nil) .nil) (.cons (.ret (.const (.none))) .nil)) .nil) (.cons (.ite (.cmp (.var 1) [.In] (.cons (.tup (.cons (.const (.str (T [104,116,116,112,58,47,47,119,119,119,46,119,51,46,111,114,103,47,88,77,76,47,49,57,57,56,47,110,97,109,101,115,112,97,99,101]))) (.cons (.const (.str (T [104,116,116,112,58,47,47,119,119,119,46,119,51,46,111,114,103,47,50,48,48,48,47,120,109,108,110,115,47]))) .nil))) .nil)) (.cons (.raise 51 (.bin false .Add (.const (.str "no other prefix may be bound to ")) (.var 1))) .nil) .nil) (.cons (.ite (.cmp (.var 0) [.NotEq] (.cons (.const (.str (T []))) .nil)) (.cons (.ite (.not (.fn 208 (.cons (.var 0) .nil) [] .nil)) (.cons (.raise 51 (.bin false .Add (.const (.str "no prefix: ")) (.var 0))) .nil) .nil) (.cons (.ite (.cmp (.var 1) [.Eq] (.cons (.const (.str (T []))) .nil)) (.cons (.raise 51 (.bin false .Add (.bin false .Add (.const (.str "the prefix ")) (.var 0)) (.const (.str " may not be unbound")))) .nil) .nil) .nil)) .nil) .nil)))),false⟩
noncomputable def c243:CF:=⟨1,"self",[],0,(.cons (.setattr (.var 0) "scopes" [303] (.list true (.cons (.dict ["xml"] (.cons (.const (.str (T [104,116,116,112,58,47,47,119,119,119,46,119,51,46,111,114,103,47,88,77,76,47,49,57,57,56,47,110,97,109,101,115,112,97,99,101]))) .nil)) .nil))) (.cons (.setattr (.var 0) "told" [303] (.list true (.cons (.tup .nil) .nil))) .nil)),false⟩
noncomputable def c250:CF:=⟨2,"attributes",[],7,(.cons (.asg 2 (.list true .nil)) (.cons (.asg 3 (.list true .nil)) (.cons (.for2 4 5 (.var 1) (.cons (.asg 6 (.fn 222 (.cons (.var 4) .nil) [] .nil)) (.cons (.ite (.cmp (.var 6) [.Is] (.cons (.const (.none)) .nil)) (.cons (.expr (.meth false (.var 2) "append" [] (some .append) (.cons (.tup (.cons (.var 4) (.cons (.var 5) .nil))) .nil) [] .nil)) .nil) (.cons (.expr (.fn 229 (.cons (.var 6) (.cons (.var 5) .nil)) [] .nil)) (.cons (.expr (.meth false (.var 3) "append" [] (some .append) (.cons (.tup (.cons (.var 6) (.cons (.var 5) .nil))) .nil) [] .nil)) .nil))) .nil))) (.cons (.asg 7 (.sub (.attr (.var 0) "scopes" [303]) (.neg (.const (.int 1))))) (.cons (.ite (.cmp (.var 3) [.NotEq] (.cons (.list false .nil) .nil)) (.cons (.asg 7 (.bf false .dict (.cons (.var 7) .nil))) (.cons (.for2 6 8 (.var 3) (.cons (.setitem (.var 7) (.var 6) (.var 8)) .nil)) .nil)) .nil) (.cons (.expr (.meth false (.attr (.var 0) "scopes" [303]) "append" [] (some .append) (.cons (.var 7) .nil) [] .nil)) (.cons (.expr (.meth false (.attr (.var 0) "told" [303]) "append" [] (some .append) (.cons (.bf false .tuple (.cons (.var 3) .nil)) .nil) [] .nil)) (.cons (.ret (.bf false .tuple (.cons (.var 2) .nil))) .nil)))))))),false⟩
noncomputable def c257:CF:=⟨1,"self",[],0,(.cons (.ite (.cmp (.bf false .len (.cons (.attr (.var 0) "scopes" [303]) .nil)) [.Eq] (.cons (.const (.int 1)) .nil)) (.cons (.raise 51 (.const (.str "no element is open"))) .nil) .nil) (.cons (.expr (.meth false (.attr (.var 0) "scopes" [303]) "pop" [] (some .pop) .nil [] .nil)) (.cons (.expr (.meth false (.attr (.var 0) "told" [303]) "pop" [] (some .pop) .nil [] .nil)) .nil))),false⟩
noncomputable def c278:CF:=⟨2,"prefix",[],1,(.cons (.ite (.cmp (.var 1) [.Eq] (.cons (.const (.str (T [120,109,108,110,115]))) .nil)) (.cons (.raise 51 (.const (.str "the prefix xmlns is for declarations alone"))) .nil) .nil) (.cons (.asg 2 (.meth false (.sub (.attr (.var 0) "scopes" [303]) (.neg (.const (.int 1)))) "get" [] (some .get) (.cons (.var 1) .nil) [] .nil)) (.cons (.ite (.cmp (.var 2) [.Is] (.cons (.const (.none)) .nil)) (.cons (.ite (.cmp (.var 1) [.NotEq] (.cons (.const (.str (T []))) .nil)) (.cons (.raise 51 (.bin false .Add (.bin false .Add (.const (.str "the prefix ")) (.var 1)) (.const (.str " is not bound")))) .nil) .nil) (.cons (.ret (.const (.str (T [])))) .nil)) .nil) (.cons (.ret (.var 2)) .nil)))),false⟩
noncomputable def c286:CF:=⟨3,"is_attribute",[.bool false],2,(.cons (.asg2 3 4 (.fn 215 (.cons (.var 1) .nil) [] .nil)) (.cons (.ite (.and (.cmp (.var 3) [.Eq] (.cons (.const (.str (T []))) .nil)) (.and (.var 2) (.const (.bool true)))) (.cons (.ret (.tup (.cons (.const (.str (T []))) (.cons (.var 4) .nil)))) .nil) .nil) (.cons (.ret (.tup (.cons (.meth false (.var 0) "uri_of" [(303,278)] .none (.cons (.var 3) .nil) [] .nil) (.cons (.var 4) .nil)))) .nil))),false⟩
noncomputable def c293:CF:=⟨2,"attributes",[],4,(.cons (.asg 2 (.dict [] .nil)) (.cons (.for2 3 4 (.var 1) (.cons (.asg 5 (.meth false (.var 0) "resolved" [(303,286)] .none (.cons (.var 3) (.cons (.const (.bool true)) .nil)) [] .nil)) (.cons (.ite (.cmp (.var 5) [.In] (.cons (.var 2) .nil)) (.cons (.raise 51 (.bin false .Add (.bin false .Add (.bin false .Add (.bin false .Add (.const (.str "two attributes ")) (.sub (.var 2) (.var 5))) (.const (.str (T [32,97,110,100,32])))) (.var 3)) (.const (.str " are the same")))) .nil) .nil) (.cons (.setitem (.var 2) (.var 5) (.var 3)) .nil)))) .nil)),false⟩
noncomputable def c315:CF:=⟨3,"with_names",[.bool true],5,(.cons (.asg 3 (.meth false (.var 0) "new_root" [(536,386)] .none .nil [] .nil)) (.cons (.asg 4 (.ite (.var 2) (.cls 303 243 .nil) (.const (.none)))) (.cons (.asg 5 (.var 3)) (.cons (.for1 6 (.var 1) (.cons (.asg 7 (.sub (.var 6) (.const (.int 0)))) (.cons (.ite (.cmp (.var 7) [.Eq] (.cons (.const (.str "start")) .nil)) (.cons (.asg 5 (.fn 322 (.cons (.var 0) (.cons (.var 5) (.cons (.sub (.var 6) (.const (.int 1))) (.cons (.sub (.var 6) (.const (.int 2))) (.cons (.var 4) .nil))))) [] .nil)) .nil) (.cons (.ite (.cmp (.var 7) [.Eq] (.cons (.const (.str "end")) .nil)) (.cons (.asg 5 (.fn 329 (.cons (.var 0) (.cons (.var 5) (.cons (.sub (.var 6) (.const (.int 1))) (.cons (.var 3) .nil)))) [] .nil)) (.cons (.ite (.cmp (.var 4) [.IsNot] (.cons (.const (.none)) .nil)) (.cons (.expr (.meth false (.var 4) "leave" [(303,257)] .none .nil [] .nil)) .nil) .nil) .nil)) (.cons (.ite (.cmp (.var 7) [.Eq] (.cons (.const (.str "text")) .nil)) (.cons (.expr (.meth false (.var 0) "add_text" [(536,407)] .none (.cons (.var 5) (.cons (.sub (.var 6) (.const (.int 1))) .nil)) [] .nil)) .nil) (.cons (.ite (.cmp (.var 7) [.Eq] (.cons (.const (.str "comment")) .nil)) (.cons (.expr (.meth false (.var 0) "add_comment" [(536,414)] .none (.cons (.var 5) (.cons (.sub (.var 6) (.const (.int 1))) .nil)) [] .nil)) .nil) (.cons (.ite (.cmp (.var 7) [.Eq] (.cons (.const (.str "instruction")) .nil)) (.cons (.expr (.meth false (.var 0) "add_instruction" [(536,421)] .none (.cons (.var 5) (.cons (.sub (.var 6) (.const (.int 1))) (.cons (.sub (.var 6) (.const (.int 2))) .nil))) [] .nil)) .nil) .nil) .nil)) .nil)) .nil)) .nil)) .nil))) (.cons (.ite (.cmp (.var 5) [.NotEq] (.cons (.var 3) .nil)) (.cons (.raise 63 (.const (.str "an element without an end"))) .nil) .nil) (.cons (.ret (.var 3)) .nil)))))),true⟩
noncomputable def c322:CF:=⟨5,"names",[],6,(.cons (.ite (.cmp (.var 4) [.Is] (.cons (.const (.none)) .nil)) (.cons (.asg 5 (.meth false (.var 0) "add_element" [(536,400)] .none (.cons (.var 1) (.cons (.var 2) (.cons (.const (.str (T []))) (.cons (.var 2) .nil)))) [] .nil)) (.cons (.for2 6 7 (.var 3) (.cons (.expr (.meth false (.var 0) "set_attribute" [(536,435)] .none (.cons (.var 5) (.cons (.var 6) (.cons (.const (.str (T []))) (.cons (.var 6) (.cons (.var 7) .nil))))) [] .nil)) .nil)) (.cons (.ret (.var 5)) .nil))) .nil) (.cons (.asg 8 (.meth false (.var 4) "enter" [(303,250)] .none (.cons (.var 3) .nil) [] .nil)) (.cons (.asg2 9 10 (.meth false (.var 4) "resolved" [(303,286)] .none (.cons (.var 2) .nil) [] .nil)) (.cons (.asg 5 (.meth false (.var 0) "add_element" [(536,400)] .none (.cons (.var 1) (.cons (.var 2) (.cons (.var 9) (.cons (.var 10) .nil)))) [] .nil)) (.cons (.for2 6 7 (.var 3) (.cons (.ite (.cmp (.var 6) [.Eq] (.cons (.const (.str (T [120,109,108,110,115]))) .nil)) (.cons (.expr (.meth false (.var 0) "add_namespace" [(536,442)] .none (.cons (.var 5) (.cons (.const (.str (T []))) (.cons (.var 7) .nil))) [] .nil)) .nil) (.cons (.ite (.cmp (.slice false (.var 6) (.const (.none)) (.const (.int 6)) (.const (.none))) [.Eq] (.cons (.const (.str (T [120,109,108,110,115,58]))) .nil)) (.cons (.expr (.meth false (.var 0) "add_namespace" [(536,442)] .none (.cons (.var 5) (.cons (.slice false (.var 6) (.const (.int 6)) (.const (.none)) (.const (.none))) (.cons (.var 7) .nil))) [] .nil)) .nil) .nil) .nil)) .nil)) (.cons (.expr (.meth false (.var 4) "check_attributes" [(303,293)] .none (.cons (.var 8) .nil) [] .nil)) (.cons (.for2 6 7 (.var 8) (.cons (.asg2 9 10 (.meth false (.var 4) "resolved" [(303,286)] .none (.cons (.var 6) (.cons (.const (.bool true)) .nil)) [] .nil)) (.cons (.expr (.meth false (.var 0) "set_attribute" [(536,435)] .none (.cons (.var 5) (.cons (.var 6) (.cons (.var 9) (.cons (.var 10) (.cons (.var 7) .nil))))) [] .nil)) .nil))) (.cons (.ret (.var 5)) .nil)))))))),false⟩
noncomputable def c329:CF:=⟨4,"root",[],0,(.cons (.ite (.or (.cmp (.var 1) [.Eq] (.cons (.var 3) .nil)) (.or (.cmp (.meth false (.var 0) "name" [(536,463)] .none (.cons (.var 1) .nil) [] .nil) [.NotEq] (.cons (.var 2) .nil)) (.const (.bool false)))) (.cons (.raise 63 (.const (.str "an end without its element"))) .nil) .nil) (.cons (.ret (.meth false (.var 0) "parent" [(536,491)] .none (.cons (.var 1) .nil) [] .nil)) .nil)),false⟩
noncomputable def c344:CF:=⟨7,"parent",[],0,(.cons (.setattr (.var 0) "kind" [347] (.var 1)) (.cons (.setattr (.var 0) "name" [347] (.var 2)) (.cons (.setattr (.var 0) "uri" [347] (.var 3)) (.cons (.setattr (.var 0) "local" [347] (.var 4)) (.cons (.setattr (.var 0) "value" [347] (.var 5)) (.cons (.setattr (.var 0) "parent" [347] (.var 6)) (.cons (.setattr (.var 0) "children" [347] (.list true .nil)) (.cons (.setattr (.var 0) "attributes" [347] (.list true .nil)) (.cons (.setattr (.var 0) "namespaces" [347] (.list true .nil)) .nil))))))))),false⟩
noncomputable def c365:CF:=⟨1,"self",[],0,(.cons (.setattr (.var 0) "rows" [536] (.list true .nil)) .nil),false⟩
noncomputable def c372:CF:=⟨7,"parent",[],0,(.cons (.expr (.meth false (.attr (.var 0) "rows" [536]) "append" [] (some .append) (.cons (.cls 347 344 (.cons (.var 1) (.cons (.var 2) (.cons (.var 3) (.cons (.var 4) (.cons (.var 5) (.cons (.var 6) .nil))))))) .nil) [] .nil)) (.cons (.ret (.bin false .Sub (.bf false .len (.cons (.attr (.var 0) "rows" [536]) .nil)) (.const (.int 1)))) .nil)),false⟩
noncomputable def c379:CF:=⟨2,"node",[],0,(.cons (.ite (.not (.cmp (.const (.int 0)) [.LtE,.Lt] (.cons (.var 1) (.cons (.bf false .len (.cons (.attr (.var 0) "rows" [536]) .nil)) .nil)))) (.cons (.raise 63 (.const (.str "no such node"))) .nil) .nil) (.cons (.ret (.sub (.attr (.var 0) "rows" [536]) (.var 1))) .nil)),false⟩
noncomputable def c386:CF:=⟨1,"self",[],0,(.cons (.ret (.meth false (.var 0) "new_row" [(536,372)] .none (.cons (.const (.str "root")) (.cons (.const (.str (T []))) (.cons (.const (.str (T []))) (.cons (.const (.str (T []))) (.cons (.const (.str (T []))) (.cons (.const (.none)) .nil)))))) [] .nil)) .nil),false⟩
noncomputable def c393:CF:=⟨7,"value",[],1,(.cons (.ite (.and (.cmp (.var 1) [.IsNot] (.cons (.const (.none)) .nil)) (.and (.cmp (.attr (.meth false (.var 0) "row" [(536,379)] .none (.cons (.var 1) .nil) [] .nil) "kind" [347]) [.NotIn] (.cons (.const (.tup [.str "root",.str "element"])) .nil)) (.const (.bool true)))) (.cons (.raise 63 (.const (.str "a node of this kind has no children"))) .nil) .nil) (.cons (.asg 7 (.meth false (.var 0) "new_row" [(536,372)] .none (.cons (.var 2) (.cons (.var 3) (.cons (.var 4) (.cons (.var 5) (.cons (.var 6) (.cons (.var 1) .nil)))))) [] .nil)) (.cons (.ite (.cmp (.var 1) [.IsNot] (.cons (.const (.none)) .nil)) (.cons (.expr (.meth false (.attr (.sub (.attr (.var 0) "rows" [536]) (.var 1)) "children" [347]) "append" [] (some .append) (.cons (.var 7) .nil) [] .nil)) .nil) .nil) (.cons (.ret (.var 7)) .nil)))),false⟩
noncomputable def c400:CF:=⟨5,"local",[],0,(.cons (.ret (.meth false (.var 0) "add_child" [(536,393)] .none (.cons (.var 1) (.cons (.const (.str "element")) (.cons (.var 2) (.cons (.var 3) (.cons (.var 4) (.cons (.const (.str (T []))) .nil)))))) [] .nil)) .nil),false⟩
noncomputable def c407:CF:=⟨3,"value",[],0,(.cons (.ret (.meth false (.var 0) "add_child" [(536,393)] .none (.cons (.var 1) (.cons (.const (.str "text")) (.cons (.const (.str (T []))) (.cons (.const (.str (T []))) (.cons (.const (.str (T []))) (.cons (.var 2) .nil)))))) [] .nil)) .nil),false⟩
noncomputable def c414:CF:=⟨3,"value",[],0,(.cons (.ret (.meth false (.var 0) "add_child" [(536,393)] .none (.cons (.var 1) (.cons (.const (.str "comment")) (.cons (.const (.str (T []))) (.cons (.const (.str (T []))) (.cons (.const (.str (T []))) (.cons (.var 2) .nil)))))) [] .nil)) .nil),false⟩
noncomputable def c421:CF:=⟨4,"data",[],0,(.cons (.ret (.meth false (.var 0) "add_child" [(536,393)] .none (.cons (.var 1) (.cons (.const (.str "instruction")) (.cons (.var 2) (.cons (.const (.str (T []))) (.cons (.var 2) (.cons (.var 3) .nil)))))) [] .nil)) .nil),false⟩
noncomputable def c428:CF:=⟨2,"element",[],1,(.cons (.asg 2 (.meth false (.var 0) "row" [(536,379)] .none (.cons (.var 1) .nil) [] .nil)) (.cons (.ite (.cmp (.attr (.var 2) "kind" [347]) [.NotEq] (.cons (.const (.str "element")) .nil)) (.cons (.raise 63 (.const (.str "not an element"))) .nil) .nil) (.cons (.ret (.var 2)) .nil))),false⟩
noncomputable def c435:CF:=⟨6,"value",[],3,(.cons (.asg 6 (.meth false (.var 0) "element_row" [(536,428)] .none (.cons (.var 1) .nil) [] .nil)) (.cons (.for1 7 (.attr (.var 6) "attributes" [347]) (.cons (.asg 8 (.sub (.attr (.var 0) "rows" [536]) (.var 7))) (.cons (.ite (.and (.cmp (.attr (.var 8) "uri" [347]) [.Eq] (.cons (.var 3) .nil)) (.and (.cmp (.attr (.var 8) "local" [347]) [.Eq] (.cons (.var 4) .nil)) (.const (.bool true)))) (.cons (.setattr (.var 8) "name" [347] (.var 2)) (.cons (.setattr (.var 8) "value" [347] (.var 5)) (.cons (.ret (.var 7)) .nil))) .nil) .nil))) (.cons (.asg 7 (.meth false (.var 0) "new_row" [(536,372)] .none (.cons (.const (.str "attribute")) (.cons (.var 2) (.cons (.var 3) (.cons (.var 4) (.cons (.var 5) (.cons (.var 1) .nil)))))) [] .nil)) (.cons (.expr (.meth false (.attr (.var 6) "attributes" [347]) "append" [] (some .append) (.cons (.var 7) .nil) [] .nil)) (.cons (.ret (.var 7)) .nil))))),false⟩
noncomputable def c442:CF:=⟨4,"uri",[],2,(.cons (.asg 4 (.meth false (.var 0) "element_row" [(536,428)] .none (.cons (.var 1) .nil) [] .nil)) (.cons (.for1 5 (.attr (.var 4) "namespaces" [347]) (.cons (.ite (.cmp (.attr (.sub (.attr (.var 0) "rows" [536]) (.var 5)) "name" [347]) [.Eq] (.cons (.var 2) .nil)) (.cons (.setattr (.sub (.attr (.var 0) "rows" [536]) (.var 5)) "value" [347] (.var 3)) (.cons (.ret (.var 5)) .nil)) .nil) .nil)) (.cons (.asg 5 (.meth false (.var 0) "new_row" [(536,372)] .none (.cons (.const (.str "namespace")) (.cons (.var 2) (.cons (.const (.str (T []))) (.cons (.var 2) (.cons (.var 3) (.cons (.var 1) .nil)))))) [] .nil)) (.cons (.expr (.meth false (.attr (.var 4) "namespaces" [347]) "append" [] (some .append) (.cons (.var 5) .nil) [] .nil)) (.cons (.ret (.var 5)) .nil))))),false⟩
noncomputable def c456:CF:=⟨2,"node",[],0,(.cons (.ret (.attr (.meth false (.var 0) "row" [(536,379)] .none (.cons (.var 1) .nil) [] .nil) "kind" [347])) .nil),false⟩
noncomputable def c463:CF:=⟨2,"node",[],0,(.cons (.ret (.attr (.meth false (.var 0) "row" [(536,379)] .none (.cons (.var 1) .nil) [] .nil) "name" [347])) .nil),false⟩
noncomputable def c470:CF:=⟨2,"node",[],0,(.cons (.ret (.attr (.meth false (.var 0) "row" [(536,379)] .none (.cons (.var 1) .nil) [] .nil) "uri" [347])) .nil),false⟩
noncomputable def c477:CF:=⟨2,"node",[],0,(.cons (.ret (.attr (.meth false (.var 0) "row" [(536,379)] .none (.cons (.var 1) .nil) [] .nil) "local" [347])) .nil),false⟩
noncomputable def c484:CF:=⟨2,"node",[],0,(.cons (.ret (.attr (.meth false (.var 0) "row" [(536,379)] .none (.cons (.var 1) .nil) [] .nil) "value" [347])) .nil),false⟩
noncomputable def c491:CF:=⟨2,"node",[],0,(.cons (.ret (.attr (.meth false (.var 0) "row" [(536,379)] .none (.cons (.var 1) .nil) [] .nil) "parent" [347])) .nil),false⟩
noncomputable def c498:CF:=⟨2,"node",[],0,(.cons (.ret (.bf false .list (.cons (.attr (.meth false (.var 0) "row" [(536,379)] .none (.cons (.var 1) .nil) [] .nil) "children" [347]) .nil))) .nil),false⟩
noncomputable def c505:CF:=⟨2,"node",[],0,(.cons (.ret (.bf false .list (.cons (.attr (.meth false (.var 0) "row" [(536,379)] .none (.cons (.var 1) .nil) [] .nil) "attributes" [347]) .nil))) .nil),false⟩
noncomputable def c512:CF:=⟨2,"node",[],0,(.cons (.ret (.bf false .list (.cons (.attr (.meth false (.var 0) "row" [(536,379)] .none (.cons (.var 1) .nil) [] .nil) "namespaces" [347]) .nil))) .nil),false⟩
noncomputable def c547:CF:=⟨2,"k",[],3,(.cons (.asg 2 (.const (.int 0))) (.cons (.ite (.cmp (.var 1) [.Lt] (.cons (.bf false .len (.cons (.var 0) .nil)) .nil)) (.cons (.asg 2 (.sub (.var 0) (.var 1))) .nil) .nil) (.cons (.asg 3 (.bf false .max (.cons (.bf false .int (.cons (.var 2) .nil)) (.cons (.bf false .int (.cons (.bin false .Sub (.neg (.const (.int 1))) (.var 2)) .nil)) .nil)))) (.cons (.asg 4 (.bin false .Mod (.bf false .int (.cons (.bin false .Mult (.bin false .Add (.bin false .Add (.bin false .Add (.bin false .Mod (.bf false .int (.cons (.var 3) .nil)) (.const (.int 2147483629))) (.bin false .Mult (.bin false .Mult (.const (.int 7919)) (.var 1)) (.var 1))) (.bin false .Mult (.const (.int 31)) (.var 1))) (.const (.int 17))) (.const (.int 48271))) .nil)) (.const (.int 2147483647)))) (.cons (.ret (.list true (.cons (.bin false .Mult (.var 3) (.bf false .int (.cons (.cmp (.var 3) [.GtE] (.cons (.bin false .Pow (.const (.int 10)) (.const (.int 18))) .nil)) .nil))) (.cons (.var 4) .nil)))) .nil))))),false⟩
noncomputable def c554:CF:=⟨2,"top",[],1,(.cons (.ite (.cmp (.sub (.var 0) (.const (.int 0))) [.Gt] (.cons (.const (.int 0)) .nil)) (.cons (.asg 2 (.bin false .Mod (.bf false .int (.cons (.sub (.var 0) (.const (.int 0))) .nil)) (.var 1))) (.cons (.setitem (.var 0) (.const (.int 0)) (.bin false .FloorDiv (.sub (.var 0) (.const (.int 0))) (.var 1))) (.cons (.ret (.var 2)) .nil))) .nil) (.cons (.setitem (.var 0) (.const (.int 1)) (.bin false .Mod (.bf false .int (.cons (.bin false .Add (.bin false .Mult (.sub (.var 0) (.const (.int 1))) (.const (.int 39373))) (.const (.int 7))) .nil)) (.const (.int 2147483647)))) (.cons (.ret (.bin false .Mod (.bf false .int (.cons (.bin false .FloorDiv (.bin false .Mod (.bf false .int (.cons (.bin false .Mult (.sub (.var 0) (.const (.int 1))) (.sub (.var 0) (.const (.int 1)))) .nil)) (.const (.int 2147483629))) (.const (.int 32))) .nil)) (.var 1))) .nil))),false⟩
noncomputable def c561:CF:=⟨2,"things",[],0,(.cons (.ret (.sub (.var 1) (.fn 554 (.cons (.var 0) (.cons (.bf false .len (.cons (.var 1) .nil)) .nil)) [] .nil))) .nil),false⟩
noncomputable def c568:CF:=⟨1,"text",[],7,(.cons (.asg2 1 2 (.tup (.cons (.const (.str (T []))) (.cons (.const (.int 0)) .nil)))) (.cons (.asg 3 (.dict ["amp","lt","gt","quot","apos"] (.cons (.const (.str (T [38]))) (.cons (.const (.str (T [60]))) (.cons (.const (.str (T [62]))) (.cons (.const (.str (T [34]))) (.cons (.const (.str (T [39]))) .nil))))))) (.cons (.while (.cmp (.const (.str (T [38]))) [.In] (.cons (.slice false (.var 0) (.var 2) (.const (.none)) (.const (.none))) .nil)) (.cons (.asg 4 (.meth false (.var 0) "index" [] (some .index) (.cons (.const (.str (T [38]))) (.cons (.var 2) .nil)) [] .nil)) (.cons (.asg 5 (.meth false (.var 0) "index" [] (some .index) (.cons (.const (.str (T [59]))) (.cons (.var 4) .nil)) [] .nil)) (.cons (.asg 6 (.slice false (.var 0) (.bin false .Add (.var 4) (.const (.int 1))) (.var 5) (.const (.none)))) (.cons (.asg 7 (.ite (.cmp (.var 6) [.In] (.cons (.var 3) .nil)) (.sub (.var 3) (.var 6)) (.bf false .chr (.cons (.ite (.cmp (.sub (.var 6) (.const (.int 1))) [.Eq] (.cons (.const (.str (T [120]))) .nil)) (.bf false .int (.cons (.slice false (.var 6) (.const (.int 2)) (.const (.none)) (.const (.none))) (.cons (.const (.int 16)) .nil))) (.bf false .int (.cons (.slice false (.var 6) (.const (.int 1)) (.const (.none)) (.const (.none))) .nil))) .nil)))) (.cons (.asg2 1 2 (.tup (.cons (.bin false .Add (.bin false .Add (.var 1) (.slice false (.var 0) (.var 2) (.var 4) (.const (.none)))) (.var 7)) (.cons (.bin false .Add (.var 5) (.const (.int 1))) .nil)))) .nil)))))) (.cons (.ret (.bin false .Add (.var 1) (.slice false (.var 0) (.var 2) (.const (.none)) (.const (.none))))) .nil)))),true⟩
noncomputable def c575:CF:=⟨1,"text",[],5,(.cons (.asg 1 (.meth false (.var 0) "split" [] (some .split) (.cons (.const (.str (T [34]))) .nil) [] .nil)) (.cons (.asg 2 (.meth false (.sub (.var 1) (.const (.int 0))) "split" [] (some .split) (.cons (.const (.str (T [32]))) .nil) [] .nil)) (.cons (.asg 3 (.list true .nil)) (.cons (.for1 4 (.bf false .range (.cons (.const (.int 1)) (.cons (.bf false .len (.cons (.var 1) .nil)) (.cons (.const (.int 2)) .nil)))) (.cons (.asg 5 (.slice false (.sub (.meth false (.sub (.var 1) (.bin false .Sub (.var 4) (.const (.int 1)))) "split" [] (some .split) (.cons (.const (.str (T [32]))) .nil) [] .nil) (.neg (.const (.int 1)))) (.const (.none)) (.neg (.const (.int 1))) (.const (.none)))) (.cons (.expr (.meth false (.var 3) "append" [] (some .append) (.cons (.tup (.cons (.var 5) (.cons (.fn 568 (.cons (.repl (.repl (.sub (.var 1) (.var 4)) (T [9]) (T [32])) (T [10]) (T [32])) .nil) [] .nil) .nil))) .nil) [] .nil)) .nil))) (.cons (.ret (.tup (.cons (.sub (.var 2) (.const (.int 0))) (.cons (.bf false .tuple (.cons (.var 3) .nil)) .nil)))) .nil))))),true⟩
noncomputable def c582:CF:=⟨2,"at",[],2,(.cons (.asg 2 (.meth false (.slice false (.var 0) (.var 1) (.const (.none)) (.const (.none))) "split" [] (some .split) (.cons (.const (.str (T [34]))) .nil) [] .nil)) (.cons (.for1 3 (.bf false .range (.cons (.const (.int 0)) (.cons (.bf false .len (.cons (.var 2) .nil)) (.cons (.const (.int 2)) .nil)))) (.cons (.ite (.cmp (.const (.str (T [62]))) [.In] (.cons (.sub (.var 2) (.var 3)) .nil)) (.cons (.ret (.bin false .Add (.bin false .Add (.bin false .Add (.bin false .Add (.var 1) (.bf false .len (.cons (.meth false (.const (.str (T [34]))) "join" [] (some .join) (.cons (.slice false (.var 2) (.const (.none)) (.var 3) (.const (.none))) .nil) [] .nil) .nil))) (.bf false .int (.cons (.cmp (.var 3) [.Gt] (.cons (.const (.int 0)) .nil)) .nil))) (.meth false (.sub (.var 2) (.var 3)) "index" [] (some .index) (.cons (.const (.str (T [62]))) .nil) [] .nil)) (.const (.int 1)))) .nil) .nil) .nil)) (.cons (.ret (.bf false .len (.cons (.var 0) .nil))) .nil))),false⟩
noncomputable def c589:CF:=⟨1,"text",[],7,(.cons (.asg2 1 2 (.tup (.cons (.list true .nil) (.cons (.const (.int 0)) .nil)))) (.cons (.while (.cmp (.var 2) [.Lt] (.cons (.bf false .len (.cons (.var 0) .nil)) .nil)) (.cons (.ite (.cmp (.sub (.var 0) (.var 2)) [.NotEq] (.cons (.const (.str (T [60]))) .nil)) (.cons (.asg 3 (.ite (.cmp (.const (.str (T [60]))) [.In] (.cons (.slice false (.var 0) (.var 2) (.const (.none)) (.const (.none))) .nil)) (.meth false (.var 0) "index" [] (some .index) (.cons (.const (.str (T [60]))) (.cons (.var 2) .nil)) [] .nil) (.bf false .len (.cons (.var 0) .nil)))) (.cons (.expr (.meth false (.var 1) "append" [] (some .append) (.cons (.tup (.cons (.const (.str "text")) (.cons (.fn 568 (.cons (.slice false (.var 0) (.var 2) (.var 3) (.const (.none))) .nil) [] .nil) .nil))) .nil) [] .nil)) (.cons (.asg 1 (.bin true .Add (.var 1) (.bin false .Mult (.list false (.cons (.tup (.cons (.const (.str "comment")) (.cons (.const (.str (T [114,97,119]))) .nil))) .nil)) (.bf false .int (.cons (.cmp (.const (.str (T [93,93,62]))) [.In] (.cons (.slice false (.var 0) (.var 2) (.var 3) (.const (.none))) .nil)) .nil))))) .nil))) (.cons (.ite (.cmp (.slice false (.var 0) (.var 2) (.bin false .Add (.var 2) (.const (.int 4))) (.const (.none))) [.Eq] (.cons (.const (.str (T [60,33,45,45]))) .nil)) (.cons (.asg 3 (.bin false .Add (.meth false (.var 0) "index" [] (some .index) (.cons (.const (.str (T [45,45,62]))) (.cons (.var 2) .nil)) [] .nil) (.const (.int 3)))) (.cons (.expr (.meth false (.var 1) "append" [] (some .append) (.cons (.tup (.cons (.const (.str "comment")) (.cons (.slice false (.var 0) (.bin false .Add (.var 2) (.const (.int 4))) (.bin false .Sub (.var 3) (.const (.int 3))) (.const (.none))) .nil))) .nil) [] .nil)) .nil)) (.cons (.ite (.cmp (.sub (.var 0) (.bin false .Add (.var 2) (.const (.int 1)))) [.Eq] (.cons (.const (.str (T [63]))) .nil)) (.cons (.asg 3 (.bin false .Add (.meth false (.var 0) "index" [] (some .index) (.cons (.const (.str (T [63,62]))) (.cons (.var 2) .nil)) [] .nil) (.const (.int 2)))) (.cons (.asg 4 (.meth false (.slice false (.var 0) (.bin false .Add (.var 2) (.const (.int 2))) (.bin false .Sub (.var 3) (.const (.int 2))) (.const (.none))) "split" [] (some .split) (.cons (.const (.str (T [32]))) (.cons (.const (.int 1)) .nil)) [] .nil)) (.cons (.expr (.meth false (.var 1) "append" [] (some .append) (.cons (.tup (.cons (.const (.str "instruction")) (.cons (.sub (.var 4) (.const (.int 0))) (.cons (.ite (.cmp (.bf false .len (.cons (.var 4) .nil)) [.Gt] (.cons (.const (.int 1)) .nil)) (.sub (.var 4) (.const (.int 1))) (.const (.str (T [])))) .nil)))) .nil) [] .nil)) .nil))) (.cons (.ite (.cmp (.sub (.var 0) (.bin false .Add (.var 2) (.const (.int 1)))) [.Eq] (.cons (.const (.str (T [47]))) .nil)) (.cons (.asg 3 (.bin false .Add (.meth false (.var 0) "index" [] (some .index) (.cons (.const (.str (T [62]))) (.cons (.var 2) .nil)) [] .nil) (.const (.int 1)))) (.cons (.expr (.meth false (.var 1) "append" [] (some .append) (.cons (.tup (.cons (.const (.str "end")) (.cons (.slice false (.var 0) (.bin false .Add (.var 2) (.const (.int 2))) (.bin false .Sub (.var 3) (.const (.int 1))) (.const (.none))) .nil))) .nil) [] .nil)) .nil)) (.cons (.asg 3 (.fn 582 (.cons (.var 0) (.cons (.var 2) .nil)) [] .nil)) (.cons (.asg 5 (.cmp (.sub (.var 0) (.bin false .Sub (.var 3) (.const (.int 2)))) [.Eq] (.cons (.const (.str (T [47]))) .nil))) (.cons (.asg2 6 7 (.fn 575 (.cons (.slice false (.var 0) (.bin false .Add (.var 2) (.const (.int 1))) (.bin false .Sub (.var 3) (.ite (.var 5) (.const (.int 2)) (.const (.int 1)))) (.const (.none))) .nil) [] .nil)) (.cons (.asg 1 (.bin true .Add (.bin false .Add (.var 1) (.list false (.cons (.tup (.cons (.const (.str "start")) (.cons (.var 6) (.cons (.var 7) .nil)))) .nil))) (.bin false .Mult (.list false (.cons (.tup (.cons (.const (.str "end")) (.cons (.var 6) .nil))) .nil)) (.bf false .int (.cons (.var 5) .nil))))) .nil))))) .nil)) .nil)) .nil)) (.cons (.asg 2 (.var 3)) .nil))) (.cons (.ret (.var 1)) .nil))),false⟩
noncomputable def c594:CF:=⟨1,"source",[],1,(.cons (.asg 1 (.list false (.cons (.const (.str (T [97]))) (.cons (.const (.str (T [38]))) (.cons (.const (.str (T [60]))) (.cons (.const (.str (T [62]))) (.cons (.const (.str (T [34]))) (.cons (.const (.str (T [39]))) (.cons (.const (.str (T [9]))) (.cons (.const (.str (T [10]))) (.cons (.const (.str (T [13]))) (.cons (.const (.str (T [32]))) (.cons (.const (.str (T [93,93,62]))) (.cons (.const (.str (T [122]))) .nil)))))))))))))) (.cons (.ret (.meth false (.const (.str (T []))) "join" [] (some .join) (.cons (.comp false (.bf false .range (.cons (.bin false .Add (.const (.int 1)) (.fn 554 (.cons (.var 0) (.cons (.const (.int 3)) .nil)) [] .nil)) .nil)) [0,1] (.fn 561 (.cons (.var 1) (.cons (.var 2) .nil)) [] .nil)) .nil) [] .nil)) .nil)),false⟩
noncomputable def c601:CF:=⟨1,"source",[],0,(.cons (.ret (.fn 561 (.cons (.var 0) (.cons (.list false (.cons (.tup (.cons (.const (.str (T [97]))) (.cons (.const (.str (T []))) .nil))) (.cons (.tup (.cons (.const (.str (T [98]))) (.cons (.const (.str (T [117]))) .nil))) (.cons (.tup (.cons (.const (.str (T [112,58,99]))) (.cons (.const (.str (T [118]))) .nil))) (.cons (.tup (.cons (.const (.str (T [113,58,100]))) (.cons (.const (.str (T [119]))) .nil))) (.cons (.tup (.cons (.const (.str (T [97]))) (.cons (.const (.str (T [117]))) .nil))) (.cons (.tup (.cons (.const (.str (T [112,58,101]))) (.cons (.const (.str (T [119]))) .nil))) .nil))))))) .nil)) [] .nil)) .nil),false⟩
noncomputable def c608:CF:=⟨3,"parent",[],6,(.cons (.asg2 3 4 (.fn 601 (.cons (.var 0) .nil) [] .nil)) (.cons (.asg 5 (.meth false (.var 1) "add_element" [(536,400)] .none (.cons (.var 2) (.cons (.var 3) (.cons (.var 4) (.cons (.sub (.meth false (.var 3) "split" [] (some .split) (.cons (.const (.str (T [58]))) .nil) [] .nil) (.neg (.const (.int 1)))) .nil)))) [] .nil)) (.cons (.asg 6 (.ite (.cmp (.const (.str (T [58]))) [.In] (.cons (.var 3) .nil)) (.sub (.meth false (.var 3) "split" [] (some .split) (.cons (.const (.str (T [58]))) .nil) [] .nil) (.const (.int 0))) (.const (.str (T []))))) (.cons (.ite (.and (.cmp (.fn 554 (.cons (.var 0) (.cons (.const (.int 2)) .nil)) [] .nil) [.Eq] (.cons (.const (.int 0)) .nil)) (.and (.or (.cmp (.var 6) [.NotEq] (.cons (.const (.str (T []))) .nil)) (.or (.cmp (.var 4) [.NotEq] (.cons (.const (.str (T []))) .nil)) (.const (.bool false)))) (.const (.bool true)))) (.cons (.expr (.meth false (.var 1) "add_namespace" [(536,442)] .none (.cons (.var 5) (.cons (.var 6) (.cons (.var 4) .nil))) [] .nil)) .nil) .nil) (.cons (.ite (.cmp (.fn 554 (.cons (.var 0) (.cons (.const (.int 3)) .nil)) [] .nil) [.Eq] (.cons (.const (.int 0)) .nil)) (.cons (.expr (.meth false (.var 1) "add_namespace" [(536,442)] .none (.cons (.var 5) (.cons (.const (.str (T [114]))) (.cons (.const (.str (T [120]))) .nil))) [] .nil)) .nil) .nil) (.cons (.for1 7 (.bf false .range (.cons (.fn 554 (.cons (.var 0) (.cons (.const (.int 3)) .nil)) [] .nil) .nil)) (.cons (.asg 8 (.fn 561 (.cons (.var 0) (.cons (.list false (.cons (.tup (.cons (.const (.str (T [109]))) (.cons (.const (.str (T []))) .nil))) (.cons (.tup (.cons (.const (.str (T [110]))) (.cons (.const (.str (T []))) .nil))) (.cons (.tup (.cons (.const (.str (T [115,58,109]))) (.cons (.const (.str (T [121]))) .nil))) (.cons (.tup (.cons (.const (.str (T [113,58,110]))) (.cons (.const (.str (T [119]))) .nil))) .nil))))) .nil)) [] .nil)) (.cons (.expr (.meth false (.var 1) "set_attribute" [(536,435)] .none (.cons (.var 5) (.cons (.sub (.var 8) (.const (.int 0))) (.cons (.sub (.var 8) (.const (.int 1))) (.cons (.sub (.meth false (.sub (.var 8) (.const (.int 0))) "split" [] (some .split) (.cons (.const (.str (T [58]))) .nil) [] .nil) (.neg (.const (.int 1)))) (.cons (.fn 594 (.cons (.var 0) .nil) [] .nil) .nil))))) [] .nil)) .nil))) (.cons (.ret (.var 5)) .nil))))))),false⟩
noncomputable def c615:CF:=⟨2,"tree",[],6,(.cons (.asg 2 (.meth false (.var 1) "new_root" [(536,386)] .none .nil [] .nil)) (.cons (.asg 3 (.list true (.cons (.fn 608 (.cons (.var 0) (.cons (.var 1) (.cons (.var 2) .nil))) [] .nil) .nil))) (.cons (.for1 4 (.bf false .range (.cons (.bin false .Add (.const (.int 1)) (.fn 554 (.cons (.var 0) (.cons (.const (.int 7)) .nil)) [] .nil)) .nil)) (.cons (.asg2 5 6 (.tup (.cons (.fn 561 (.cons (.var 0) (.cons (.var 3) .nil)) [] .nil) (.cons (.fn 554 (.cons (.var 0) (.cons (.const (.int 6)) .nil)) [] .nil) .nil)))) (.cons (.asg 7 (.slice false (.meth false (.var 1) "children" [(536,498)] .none (.cons (.var 5) .nil) [] .nil) (.neg (.const (.int 1))) (.const (.none)) (.const (.none)))) (.cons (.ite (.cmp (.var 6) [.Lt] (.cons (.const (.int 2)) .nil)) (.cons (.expr (.meth false (.var 3) "append" [] (some .append) (.cons (.fn 608 (.cons (.var 0) (.cons (.var 1) (.cons (.var 5) .nil))) [] .nil) .nil) [] .nil)) .nil) (.cons (.ite (.and (.cmp (.var 6) [.Lt] (.cons (.const (.int 4)) .nil)) (.and (.or (.cmp (.var 7) [.Eq] (.cons (.list false .nil) .nil)) (.or (.cmp (.meth false (.var 1) "kind" [(536,456)] .none (.cons (.sub (.var 7) (.const (.int 0))) .nil) [] .nil) [.NotEq] (.cons (.const (.str "text")) .nil)) (.const (.bool false)))) (.const (.bool true)))) (.cons (.expr (.meth false (.var 1) "add_text" [(536,407)] .none (.cons (.var 5) (.cons (.fn 594 (.cons (.var 0) .nil) [] .nil) .nil)) [] .nil)) .nil) (.cons (.ite (.cmp (.var 6) [.Eq] (.cons (.const (.int 4)) .nil)) (.cons (.expr (.meth false (.var 1) "add_comment" [(536,414)] .none (.cons (.var 5) (.cons (.fn 561 (.cons (.var 0) (.cons (.list false (.cons (.const (.str (T []))) (.cons (.const (.str (T [32,97,32,45,32,98,32]))) (.cons (.const (.str (T [60,38,62]))) .nil)))) .nil)) [] .nil) .nil)) [] .nil)) .nil) (.cons (.expr (.meth false (.var 1) "add_instruction" [(536,421)] .none (.cons (.fn 561 (.cons (.var 0) (.cons (.list false (.cons (.var 2) (.cons (.var 5) .nil))) .nil)) [] .nil) (.cons (.const (.str (T [103,111]))) (.cons (.fn 561 (.cons (.var 0) (.cons (.list false (.cons (.const (.str (T []))) (.cons (.const (.str (T [97,61,34,49,34]))) (.cons (.const (.str (T [120,32,62,32,121]))) .nil)))) .nil)) [] .nil) .nil))) [] .nil)) .nil)) .nil)) .nil)) .nil)))) (.cons (.ret (.var 2)) .nil)))),true⟩
noncomputable def c620:CF:=⟨2,"node",[],1,(.cons (.asg 2 (.comp false (.meth false (.var 0) "attributes" [(536,505)] .none (.cons (.var 1) .nil) [] .nil) [0] (.tup (.cons (.meth false (.var 1) "name" [(536,463)] .none (.cons (.var 0) .nil) [] .nil) (.cons (.meth false (.var 1) "uri" [(536,470)] .none (.cons (.var 0) .nil) [] .nil) (.cons (.meth false (.var 1) "local" [(536,477)] .none (.cons (.var 0) .nil) [] .nil) (.cons (.meth false (.var 1) "value" [(536,484)] .none (.cons (.var 0) .nil) [] .nil) .nil))))))) (.cons (.ret (.tup (.cons (.meth false (.var 0) "kind" [(536,456)] .none (.cons (.var 1) .nil) [] .nil) (.cons (.meth false (.var 0) "name" [(536,463)] .none (.cons (.var 1) .nil) [] .nil) (.cons (.meth false (.var 0) "uri" [(536,470)] .none (.cons (.var 1) .nil) [] .nil) (.cons (.meth false (.var 0) "local" [(536,477)] .none (.cons (.var 1) .nil) [] .nil) (.cons (.meth false (.var 0) "value" [(536,484)] .none (.cons (.var 1) .nil) [] .nil) (.cons (.var 2) .nil)))))))) .nil)),false⟩
noncomputable def c625:CF:=⟨4,"copied",[],6,(.cons (.asg 4 (.list true (.cons (.tup (.cons (.var 1) (.cons (.var 3) .nil))) .nil))) (.cons (.while (.cmp (.var 4) [.NotEq] (.cons (.list false .nil) .nil)) (.cons (.asg2 5 6 (.meth false (.var 4) "pop" [] (some .pop) .nil [] .nil)) (.cons (.asg2 7 8 (.tup (.cons (.meth false (.var 0) "children" [(536,498)] .none (.cons (.var 5) .nil) [] .nil) (.cons (.meth false (.var 2) "children" [(536,498)] .none (.cons (.var 6) .nil) [] .nil) .nil)))) (.cons (.asg 9 (.comp false (.meth false (.var 0) "namespaces" [(536,512)] .none (.cons (.var 5) .nil) [] .nil) [0] (.tup (.cons (.meth false (.var 1) "name" [(536,463)] .none (.cons (.var 0) .nil) [] .nil) (.cons (.meth false (.var 1) "value" [(536,484)] .none (.cons (.var 0) .nil) [] .nil) .nil))))) (.cons (.ite (.or (.cmp (.fn 620 (.cons (.var 0) (.cons (.var 5) .nil)) [] .nil) [.NotEq] (.cons (.fn 620 (.cons (.var 2) (.cons (.var 6) .nil)) [] .nil) .nil)) (.or (.cmp (.bf false .len (.cons (.var 7) .nil)) [.NotEq] (.cons (.bf false .len (.cons (.var 8) .nil)) .nil)) (.const (.bool false)))) (.cons (.ret (.const (.bool false))) .nil) .nil) (.cons (.ite (.cmp (.var 9) [.NotEq] (.cons (.slice false (.comp false (.meth false (.var 2) "namespaces" [(536,512)] .none (.cons (.var 6) .nil) [] .nil) [2] (.tup (.cons (.meth false (.var 1) "name" [(536,463)] .none (.cons (.var 0) .nil) [] .nil) (.cons (.meth false (.var 1) "value" [(536,484)] .none (.cons (.var 0) .nil) [] .nil) .nil)))) (.const (.none)) (.bf false .len (.cons (.var 9) .nil)) (.const (.none))) .nil)) (.cons (.ret (.const (.bool false))) .nil) .nil) (.cons (.asg 4 (.bin true .Add (.var 4) (.comp false (.bf false .range (.cons (.bf false .len (.cons (.var 7) .nil)) .nil)) [7,8] (.tup (.cons (.sub (.var 1) (.var 0)) (.cons (.sub (.var 2) (.var 0)) .nil)))))) .nil))))))) (.cons (.ret (.const (.bool true))) .nil))),true⟩
noncomputable def c632:CF:=⟨3,"is_comment",[],1,(.cons (.ite (.var 2) (.cons (.asg 3 (.meth false (.var 0) "add_comment" [(536,414)] .none (.cons (.var 1) (.cons (.const (.str (T [97,45,45,98]))) .nil)) [] .nil)) .nil) (.cons (.asg 3 (.meth false (.var 0) "add_instruction" [(536,421)] .none (.cons (.var 1) (.cons (.const (.str (T [103,111]))) (.cons (.const (.str (T [97,63,62]))) .nil))) [] .nil)) .nil)) (.cons (.try (.cons (.expr (.fn 142 (.cons (.var 0) (.cons (.var 3) .nil)) [] .nil)) .nil) 63 (.cons (.ret (.const (.bool true))) .nil)) (.cons (.ret (.const (.bool false))) .nil))),false⟩
noncomputable def c639:CF:=⟨0,"",[],4,(.cons (.asg 0 (.cls 536 365 .nil)) (.cons (.asg 1 (.meth false (.var 0) "add_element" [(536,400)] .none (.cons (.meth false (.var 0) "new_root" [(536,386)] .none .nil [] .nil) (.cons (.const (.str (T [112,58,99]))) (.cons (.const (.str (T [118]))) (.cons (.const (.str (T [99]))) .nil)))) [] .nil)) (.cons (.expr (.meth false (.var 0) "add_namespace" [(536,442)] .none (.cons (.var 1) (.cons (.const (.str (T [112]))) (.cons (.const (.str (T [118]))) .nil))) [] .nil)) (.cons (.asg 2 (.meth false (.var 0) "add_element" [(536,400)] .none (.cons (.meth false (.var 0) "new_root" [(536,386)] .none .nil [] .nil) (.cons (.const (.str (T [113,58,100]))) (.cons (.const (.str (T [119]))) (.cons (.const (.str (T [100]))) .nil)))) [] .nil)) (.cons (.expr (.meth false (.var 0) "set_attribute" [(536,435)] .none (.cons (.var 2) (.cons (.const (.str (T [113,58,110]))) (.cons (.const (.str (T [119]))) (.cons (.const (.str (T [110]))) (.cons (.const (.str (T [49]))) .nil))))) [] .nil)) (.cons (.asg 3 (.list false (.cons (.fn 142 (.cons (.var 0) (.cons (.var 1) .nil)) [] .nil) (.cons (.fn 142 (.cons (.var 0) (.cons (.var 2) .nil)) [] .nil) .nil)))) (.cons (.ret (.cmp (.var 3) [.Eq] (.cons (.list false (.cons (.const (.str "<p:c xmlns:p=\"v\"/>")) (.cons (.const (.str "<q:d xmlns:q=\"w\" q:n=\"1\"/>")) .nil))) .nil))) .nil))))))),true⟩
noncomputable def c644:CF:=⟨1,"script",[],8,(.cons (.asg 1 (.fn 547 (.cons (.var 0) (.cons (.const (.int 0)) .nil)) [] .nil)) (.cons (.ite (.not (.fn 639 .nil [] .nil)) (.cons (.ret (.const (.bool false))) .nil) .nil) (.cons (.asg 2 (.cls 536 365 .nil)) (.cons (.asg 3 (.fn 615 (.cons (.var 1) (.cons (.var 2) .nil)) [] .nil)) (.cons (.asg 4 (.fn 142 (.cons (.var 2) (.cons (.var 3) .nil)) [] .nil)) (.cons (.asg 5 (.cls 536 365 .nil)) (.cons (.asg 6 (.fn 315 (.cons (.var 5) (.cons (.fn 589 (.cons (.repl (.var 4) (T [13]) (T [10])) .nil) [] .nil) .nil)) [] .nil)) (.cons (.ite (.or (.not (.fn 625 (.cons (.var 2) (.cons (.var 3) (.cons (.var 5) (.cons (.var 6) .nil)))) [] .nil)) (.or (.cmp (.fn 142 (.cons (.var 5) (.cons (.var 6) .nil)) [] .nil) [.NotEq] (.cons (.var 4) .nil)) (.const (.bool false)))) (.cons (.ret (.const (.bool false))) .nil) .nil) (.cons (.asg 7 (.fn 142 (.cons (.var 2) (.cons (.var 3) .nil)) ["declaration"] (.cons (.const (.bool true)) .nil))) (.cons (.ite (.or (.cmp (.sub (.meth false (.var 7) "split" [] (some .split) (.cons (.const (.str (T [10]))) (.cons (.const (.int 1)) .nil)) [] .nil) (.const (.int 1))) [.NotEq] (.cons (.var 4) .nil)) (.or (.cmp (.slice false (.var 7) (.const (.none)) (.const (.int 19)) (.const (.none))) [.NotEq] (.cons (.const (.str (T [60,63,120,109,108,32,118,101,114,115,105,111,110,61,34,49,46,48,34]))) .nil)) (.const (.bool false)))) (.cons (.ret (.const (.bool false))) .nil) .nil) (.cons (.asg 8 (.sub (.compIf false (.meth false (.var 2) "children" [(536,498)] .none (.cons (.var 3) .nil) [] .nil) [2] (.cmp (.meth false (.var 1) "kind" [(536,456)] .none (.cons (.var 0) .nil) [] .nil) [.Eq] (.cons (.const (.str "element")) .nil)) (.var 0)) (.const (.int 0)))) (.cons (.ret (.fn 632 (.cons (.var 2) (.cons (.var 8) (.cons (.cmp (.fn 554 (.cons (.var 1) (.cons (.const (.int 2)) .nil)) [] .nil) [.Eq] (.cons (.const (.int 0)) .nil)) .nil))) [] .nil)) .nil)))))))))))),false⟩
noncomputable def fnsL0:List (Addr × CF):=[(72,c72),(79,c79),(84,c84),(89,c89),(96,c96),(103,c103),(110,c110),(117,c117),(122,c122),(129,c129),(136,c136),(142,c142),(173,c173),(180,c180),(187,c187),(194,c194),(201,c201),(208,c208),(215,c215),(222,c222)]
noncomputable def fnsL1:List (Addr × CF):=[(229,c229),(243,c243),(250,c250),(257,c257),(278,c278),(286,c286),(293,c293),(315,c315),(322,c322),(329,c329),(344,c344),(365,c365),(372,c372),(379,c379),(386,c386),(393,c393),(400,c400),(407,c407),(414,c414),(421,c421)]
noncomputable def fnsL2:List (Addr × CF):=[(428,c428),(435,c435),(442,c442),(456,c456),(463,c463),(470,c470),(477,c477),(484,c484),(491,c491),(498,c498),(505,c505),(512,c512),(547,c547),(554,c554),(561,c561),(568,c568),(575,c575),(582,c582),(589,c589),(594,c594)]
noncomputable def fnsL3:List (Addr × CF):=[(601,c601),(608,c608),(615,c615),(620,c620),(625,c625),(632,c632),(639,c639),(644,c644)]
noncomputable def fnsL:List (Addr × CF):=fnsL0 ++ fnsL1 ++ fnsL2 ++ fnsL3
noncomputable def fns:Fns:=fun f => fnsL.lookup f
@[irreducible] noncomputable def R0 (wf n:Nat):RunT:=run0 fns wf n
@[irreducible] noncomputable def R1 (wf n:Nat):RunT:=run1 fns isPacked wf n
noncomputable def cx0 (wf n:Nat):Cx:=⟨R0 wf n,noRun,fun _ => false,wf⟩
noncomputable def cx1 (wf n:Nat):Cx:=⟨R1 wf n,R0 wf n,isPacked,wf⟩
noncomputable def Ok (c:Comp) (v:V) (σ:St):Prop:=∀ K X,K v σ -> c K X
noncomputable def Xc (c:Comp) (a:Addr) (σ:St):Prop:=∀ K X,X a σ -> c K X
noncomputable def Nx (c:EE -> KN -> Prop) (fr:Fr) (σ:St) (cx:Cx):Prop:=∀ P N,N ⟨cx,P⟩ fr σ -> c ⟨cx,P⟩ N
noncomputable def Rt (c:EE -> KN -> Prop) (v:V) (σ:St) (cx:Cx):Prop:=∀ P N,P.ret v σ -> c ⟨cx,P⟩ N
noncomputable def Xs (c:EE -> KN -> Prop) (a:Addr) (fr:Fr) (σ:St) (cx:Cx):Prop:=∀ P N,P.exc a fr σ -> c ⟨cx,P⟩ N
section
variable {e:EE} {fr:Fr} {σ:St} {v:V} {o:Out} {c:Comp} {K:KE} {a:Addr}
theorem el_ok (q:o = .ok v σ) (h:K v e fr σ):El e fr o K:=.mk _ _ q h
theorem elo_ok {α:Type} {o:Option α} {a:α} {K:α -> EE -> Fr -> St -> Prop} (q:o = some a) (h:K a e fr σ):ElO o e fr σ K:=.mk _ q h
theorem ca_ok (q:Ok c v σ) (h:K v e fr σ):Ca c e fr K:=.mk (q _ _ h)
theorem ca_ex (q:Xc c a σ) (h:e.P.exc a fr σ):Ca c e fr K:=.mk (q _ _ h)
theorem br_t {b:Bool} {A B:Prop} (e:b = true) (h:A):Br b A B:=.t e h
theorem br_f {b:Bool} {A B:Prop} (e:b = false) (h:B):Br b A B:=.f e h
end
section
variable {wf n:Nat} {f:Addr} {np nl:Nat} {last:Str} {df:List V} {body:CSs} {drop:Bool} {args vs:List V} {kw:List (Str × V)} {σ σ':St} {K:V -> St -> Prop} {X:Addr -> St -> Prop} {v:V} {a:Addr}
theorem run_of {cx:Cx} (e:bindF ⟨np,last,df,nl,body,drop⟩ args kw = some vs) (h:∀ P:PX,(∀ v σ',K v (dropF drop σ v σ') -> P.ret v σ') -> (∀ a fr σ',X a σ' -> P.exc a fr σ') -> evSs body ⟨cx,P⟩ (frame vs nl) σ endN):runF cx ⟨np,last,df,nl,body,drop⟩ args kw σ K X:=by
 unfold runF; rw [e]; exact h _ (fun _ _ h => h) (fun _ _ _ h => h)
theorem r0_of (d:fns f = some ⟨np,last,df,nl,body,drop⟩) (b:bindF ⟨np,last,df,nl,body,drop⟩ args kw = some vs) (h:∀ P:PX,(∀ v σ',K v (dropF drop σ v σ') -> P.ret v σ') -> (∀ a fr σ',X a σ' -> P.exc a fr σ') -> evSs body ⟨cx0 wf n,P⟩ (frame vs nl) σ endN):R0 wf (n + 1) f args kw σ K X:=by
 unfold R0
 show runC (fns f) _ K X
 rw [d]; unfold cx0 R0 at h; exact run_of b h
theorem r1_of (d:fns f = some ⟨np,last,df,nl,body,drop⟩) (b:bindF ⟨np,last,df,nl,body,drop⟩ args kw = some vs) (h:∀ P:PX,(∀ v σ',K v (dropF drop σ v σ') -> P.ret v σ') -> (∀ a fr σ',X a σ' -> P.exc a fr σ') -> evSs body ⟨cx1 wf n,P⟩ (frame vs nl) σ endN):R1 wf (n + 1) f args kw σ K X:=by
 unfold R1
 show runC (fns f) _ K X
 rw [d]; unfold cx1 R1 R0 at h; exact run_of b h
theorem ok_r0 (d:fns f = some ⟨np,last,df,nl,body,false⟩) (b:bindF ⟨np,last,df,nl,body,false⟩ args kw = some vs) (h:∀ P:PX,P.ret v σ' -> evSs body ⟨cx0 wf n,P⟩ (frame vs nl) σ endN):Ok (R0 wf (n + 1) f args kw σ) v σ' :=
 fun K X k => r0_of d b fun P hr _ => h P (hr _ _ k)
theorem ok_r1 (d:fns f = some ⟨np,last,df,nl,body,false⟩) (b:bindF ⟨np,last,df,nl,body,false⟩ args kw = some vs) (h:∀ P:PX,P.ret v σ' -> evSs body ⟨cx1 wf n,P⟩ (frame vs nl) σ endN):Ok (R1 wf (n + 1) f args kw σ) v σ' :=
 fun K X k => r1_of d b fun P hr _ => h P (hr _ _ k)
theorem xc_r1 (d:fns f = some ⟨np,last,df,nl,body,drop⟩) (b:bindF ⟨np,last,df,nl,body,drop⟩ args kw = some vs) (h:∀ P:PX,(∀ fr,P.exc a fr σ') -> evSs body ⟨cx1 wf n,P⟩ (frame vs nl) σ endN):Xc (R1 wf (n + 1) f args kw σ) a σ' :=
 fun K X k => r1_of d b fun P _ hx => h P fun fr => hx _ _ _ k
end
mutual
theorem eqb_refl:∀ (a:V),V.eqb a a = true
 | .none => rfl
 | .bool b => beq_self_eq_true (some b)
 | .int b => beq_self_eq_true (some b)
 | .str b => beq_self_eq_true (some b)
 | .tup l => eqbs_refl l
 | .lst l => eqbs_refl l
 | .rng a b c => beq_self_eq_true (some (a,b,c))
 | .ref b => beq_self_eq_true (some b)
theorem eqbs_refl:∀ (a:List V),V.eqbs a a = true
 | [] => rfl
 | x :: l => by show (V.eqb x x && V.eqbs l l) = true; rw [eqb_refl x,eqbs_refl l]; rfl
end
@[simp] theorem T_toList {l:List Nat}:(T l).cps.toList = l:=rfl
@[simp] theorem T_append {a b:List Nat}:T a ++ T b = T (a ++ b):=by
 show (⟨a.toArray ++ b.toArray⟩:Str) = ⟨(a ++ b).toArray⟩
 rw [List.append_toArray]
@[simp] theorem T_length {l:List Nat}:(T l).length = l.length:=List.size_toArray
@[simp] theorem T_inj {a b:List Nat}:T a = T b ↔ a = b:=⟨fun h => congrArg (fun s:Str => s.cps.toList) h,fun h => h ▸ rfl⟩
theorem T_of (s:Str):s = T s.cps.toList:=rfl
@[simp] theorem T_beq {a b:List Nat}:(T a == T b) = decide (a = b):=Bool.eq_iff_iff.mpr (by rw [beq_iff_eq,T_inj,decide_eq_true_eq])
structure Row where
 kind:Str
 name:Str
 uri:Str
 loc:Str
 val:Str
 par:Option Nat
 ch:List Nat
 ats:List Nat
 nss:List Nat
noncomputable abbrev iv (n:Nat):V:=.int (n:Int)
noncomputable def pv:Option Nat -> V
 | none => .none
 | some n => iv n
noncomputable def ivs (l:List Nat):List V:=l.map iv
noncomputable def rowFs (b:Nat) (r:Row):List (Str × V):=[("kind",.str r.kind),("name",.str r.name),("uri",.str r.uri),("local",.str r.loc),("value",.str r.val),("parent",pv r.par),("children",.ref (b + 1)),("attributes",.ref (b + 2)),("namespaces",.ref (b + 3))]
noncomputable def rowCells (b:Nat) (r:Row):List Cell:=[.inst 347 (rowFs b r),.list (ivs r.ch),.list (ivs r.ats),.list (ivs r.nss)]
noncomputable def bodyCells (b:Nat):List Row -> List Cell
 | [] => []
 | r :: rs => rowCells b r ++ bodyCells (b + 4) rs
noncomputable def refs (n:Nat):List V:=(List.range n).map fun i => .ref (2 + 4 * i)
noncomputable def tree (rows:List Row):St:=.inst 536 [("rows",.ref 1)] :: .list (refs rows.length) :: bodyCells 2 rows
theorem four (n:Nat):4 * (n + 1) = 4 + 4 * n:=by rw [Nat.mul_add,Nat.add_comm]
theorem body_len:∀ {rows:List Row} {b:Nat},(bodyCells b rows).length = 4 * rows.length
 | [],_ => rfl
 | r :: rs,b => by rw [bodyCells,List.length_append,body_len,List.length_cons,four]; rfl
theorem body_get:∀ {rows:List Row} {b i j:Nat} {r:Row},rows[i]? = some r -> j < 4 -> (bodyCells b rows)[4 * i + j]? = (rowCells (b + 4 * i) r)[j]?
 | [],_,_,_,_,h,_ => nomatch h
 | r :: rs,b,0,j,r',h,hj => by
  cases h
  rw [bodyCells,Nat.mul_zero,Nat.zero_add,List.getElem?_append_left hj]; rfl
 | r :: rs,b,i + 1,j,r',h,hj => by
  have e:4 * (i + 1) + j = (rowCells b r).length + (4 * i + j):=by rw [four,Nat.add_assoc]; rfl
  have h:rs[i]? = some r':=h
  rw [bodyCells,e,List.getElem?_append_right (Nat.le_add_right _ _),Nat.add_sub_cancel_left,body_get (b:=b + 4) (j:=j) h hj,four,Nat.add_assoc]
theorem body_set:∀ {rows:List Row} {b i j:Nat} {r r':Row} {c:Cell},rows[i]? = some r -> j < 4 -> (rowCells (b + 4 * i) r).set j c = rowCells (b + 4 * i) r' -> (bodyCells b rows).set (4 * i + j) c = bodyCells b (rows.set i r')
 | [],_,_,_,_,_,_,h,_,_ => nomatch h
 | r :: rs,b,0,j,r',r'',c,h,hj,hc => by
  cases h
  rw [bodyCells,Nat.mul_zero,Nat.zero_add,List.set_append_left _ _ hj]
  rw [Nat.mul_zero,Nat.add_zero] at hc
  rw [hc]; rfl
 | r :: rs,b,i + 1,j,r',r'',c,h,hj,hc => by
  have e:4 * (i + 1) + j = (rowCells b r).length + (4 * i + j):=by rw [four,Nat.add_assoc]; rfl
  have h:rs[i]? = some r':=h
  rw [bodyCells,e,List.set_append_right _ _ (Nat.le_add_right _ _),Nat.add_sub_cancel_left,body_set (r:=r') (r':=r'') h hj (by rw [Nat.add_assoc,<- four]; exact hc)]
  rfl
theorem body_push:∀ {rows:List Row} {b:Nat} {r:Row},bodyCells b (rows ++ [r]) = bodyCells b rows ++ rowCells (b + 4 * rows.length) r
 | [],b,r => List.append_nil _
 | x :: rs,b,r => by
  show rowCells b x ++ bodyCells (b + 4) (rs ++ [r]) = (rowCells b x ++ bodyCells (b + 4) rs) ++ _
  rw [body_push,List.append_assoc,List.length_cons,four,Nat.add_assoc]
section
variable {rows:List Row} {i:Nat} {r r':Row}
theorem tree_len:(tree rows).length = 2 + 4 * rows.length:=by rw [tree,List.length_cons,List.length_cons,body_len,Nat.add_comm 2]
theorem tree_0:(tree rows)[0]? = some (.inst 536 [("rows",.ref 1)]):=rfl
theorem tree_1:(tree rows)[1]? = some (.list (refs rows.length)):=rfl
theorem two (i j:Nat):2 + 4 * i + j = (4 * i + j) + 1 + 1:=by rw [Nat.add_assoc,Nat.add_comm 2]
theorem tree_at (h:rows[i]? = some r) {j:Nat} (hj:j < 4):(tree rows)[2 + 4 * i + j]? = (rowCells (2 + 4 * i) r)[j]?:=by
 rw [<- body_get (b:=2) h hj,tree,two,List.getElem?_cons_succ,List.getElem?_cons_succ]
theorem tree_row (h:rows[i]? = some r):(tree rows)[2 + 4 * i]? = some (.inst 347 (rowFs (2 + 4 * i) r)):=tree_at h (j:=0) (by decide)
theorem tree_ch (h:rows[i]? = some r):(tree rows)[2 + 4 * i + 1]? = some (.list (ivs r.ch)):=tree_at h (by decide)
theorem tree_ats (h:rows[i]? = some r):(tree rows)[2 + 4 * i + 2]? = some (.list (ivs r.ats)):=tree_at h (by decide)
theorem tree_nss (h:rows[i]? = some r):(tree rows)[2 + 4 * i + 3]? = some (.list (ivs r.nss)):=tree_at h (by decide)
theorem tree_set {c:Cell} {j:Nat} (h:rows[i]? = some r) (hj:j < 4) (hc:(rowCells (2 + 4 * i) r).set j c = rowCells (2 + 4 * i) r'):(tree rows).set (2 + 4 * i + j) c = tree (rows.set i r'):=by
 rw [tree,two,List.set_cons_succ,List.set_cons_succ,body_set h hj hc,tree,List.length_set]
theorem refs_get {n:Nat} (h:i < n):(refs n)[i]? = some (.ref (2 + 4 * i)):=by
 rw [refs,List.getElem?_map,List.getElem?_range h]; rfl
theorem refs_len {n:Nat}:(refs n).length = n:=by rw [refs,List.length_map,List.length_range]
theorem refs_succ {n:Nat}:refs (n + 1) = refs n ++ [.ref (2 + 4 * n)]:=by rw [refs,List.range_succ,List.map_append]; rfl
theorem lt_of_get {α:Type} {l:List α} {i:Nat} {r:α} (h:l[i]? = some r):i < l.length:=(List.getElem?_eq_some_iff.mp h).1
theorem big_lt:big < 2 ^ 62:=by decide
theorem place_nat {n i:Nat} (h:i < n) (hb:n <= big):place n (i:Int) = some i:=by
 have hb:=Nat.lt_of_le_of_lt hb big_lt
 unfold place seqIndex?
 rw [if_pos (by constructor <;> omega)]
 simp only []
 split
 ·omega
 ·rename_i h2
  simp; omega
end
section
variable {σ:St} {mk:Bool} {k:Nat}
theorem len_str {x:Str} (h:x.length <= big):bfF mk .len [.str x] σ = .ok (.int x.length) σ:=if_pos h
theorem len_lst {l:List V} (h:l.length <= big):bfF mk .len [.lst l] σ = .ok (.int l.length) σ:=if_pos h
theorem len_tup {l:List V} (h:l.length <= big):bfF mk .len [.tup l] σ = .ok (.int l.length) σ:=if_pos h
theorem getL_ref {n:Nat} {l:List V} (h:σ[n]? = some (.list l)):getL σ (.ref n) = some l:=lstAt_eq h
theorem oO_some {α:Type} {o:Option α} {a:α} {f:α -> Out} {r:Out} (e:o = some a) (h:f a = r):oO o f = r:=by subst e; exact h
theorem len_ref {l:List V} (e:σ[k]? = some (.list l)) (h:l.length <= big):bfF mk .len [.ref k] σ = .ok (.int l.length) σ:=oO_some (o:=(getL σ (.ref k)).map List.length) (by rw [getL_ref e]; rfl) (if_pos h)
theorem okS_ok {s:Str} (h:s.length <= sizeLine):okS s σ = .ok (.str s) σ:=if_pos h
theorem okL_ok {l:List V} (h:l.length <= big):okL false l σ = .ok (.lst l) σ:=if_pos h
theorem okL_mk {l:List V} (h:l.length <= big):okL true l σ = .ok (.ref σ.length) (σ ++ [.list l]):=if_pos h
theorem list_ref {l:List V} (e:σ[k]? = some (.list l)) (h:l.length <= big):bfF false .list [.ref k] σ = .ok (.lst l) σ:=oO_some (getL_ref e) (okL_ok h)
theorem append_ref {l:List V} {v:V} (e:σ[k]? = some (.list l)) (h:l.length < big):bmF mk .append (.ref k) [v] σ = .ok .none (σ.set k (.list (l ++ [v]))):=oO_some (o:=lstAt σ k) (lstAt_eq e) (if_pos h)
theorem pop_ref {l:List V} {v:V} (e:σ[k]? = some (.list (l ++ [v]))) (h:l.length < big):bmF mk .pop (.ref k) [] σ = .ok v (σ.set k (.list l)):=by
 show oO (lstAt σ k) (fun l => oO l.getLast? fun v => okI (l.dropLast.length < big) v (σ.set k (.list l.dropLast))) = _
 refine oO_some (lstAt_eq e) (oO_some List.getLast?_concat ?_)
 rw [List.dropLast_concat]; exact if_pos h
theorem attr_ref {c:Addr} {fs:List (Str × V)} {x:Str} {cs:List Addr} {v:V} (e:σ[k]? = some (.inst c fs)) (h:cs.contains c = true) (hv:fs.lookup x = some v):attrF σ (.ref k) x cs = some v:=by
 show ((σ[k]?).bind instAt).bind _ = _
 rw [e]
 show (bif cs.contains c then fs.lookup x else none) = _
 rw [h]; exact hv
theorem sub_ref {l:List V} {i:Nat} {v:V} (e:σ[k]? = some (.list l)) (hv:l[i]? = some v) (h:l.length <= big):subF σ (.ref k) (iv i) = some v:=by
 show (lstAt σ k).bind (fun l => atL l (place l.length (i:Int))) = _
 rw [lstAt_eq e,Option.bind_some,place_nat (lt_of_get hv) h]; exact hv
theorem setattr_ref {c:Addr} {fs:List (Str × V)} {x:Str} {cs:List Addr} {v:V} (e:σ[k]? = some (.inst c fs)) (h:cs.contains c = true) (hl:fs.length < 1000):setAttrF (.ref k) x cs v σ = some (σ.set k (.inst c (upd fs x v))):=by
 show ((σ[k]?).bind instAt).bind _ = _
 rw [e]
 exact if_pos ⟨h,Nat.lt_trans hl (by decide)⟩
theorem pick_ok {c:Addr} {fs:List (Str × V)} {m:Str} {f:Addr} {ms:List (Addr × Addr)} (h1:fs.lookup m = none) (h2:ms.lookup c = some f):pickF m ms (c,fs) = some f:=by
 unfold pickF; rw [h1]; exact h2
theorem selF_inst {c:Addr} {fs:List (Str × V)} {m:Str} {f:Addr} {ms:List (Addr × Addr)} {b:Option BM} (e:σ[k]? = some (.inst c fs)) (h1:fs.lookup m = none) (h2:ms.lookup c = some f):selF m ms b (.ref k) σ = some (.fn f):=by
 show (σ[k]?).bind _ = _
 rw [e]
 show (pickF m ms (c,fs)).map _ = _
 rw [pick_ok h1 h2]; rfl
theorem selF_pack {σL:St} {c:Addr} {fs:List (Str × V)} {m:Str} {f:Addr} {ms:List (Addr × Addr)} {b:Option BM} (e:σ[k]? = some (.pack σL)) (e0:σL[0]? = some (.inst c fs)) (h1:fs.lookup m = none) (h2:ms.lookup c = some f):selF m ms b (.ref k) σ = some (.pk f):=by
 show (σ[k]?).bind _ = _
 rw [e]
 show (((σL[0]?:Option Cell).bind instAt).bind _:Option SelR) = _
 rw [e0]
 show (pickF m ms (c,fs)).map _ = _
 rw [pick_ok h1 h2]; rfl
theorem selF_pop {m:Str} {ms:List (Addr × Addr)} {n:Nat} {l:List V} (h:σ[n]? = some (.list l)):selF m ms (some .pop) (.ref n) σ = some .bm:=by show (σ[n]?).bind _ = _; rw [h]; rfl
theorem selF_append {m:Str} {ms:List (Addr × Addr)} {n:Nat} {l:List V} (h:σ[n]? = some (.list l)):selF m ms (some .append) (.ref n) σ = some .bm:=by show (σ[n]?).bind _ = _; rw [h]; rfl
theorem selF_get {m:Str} {ms:List (Addr × Addr)} {n:Nat} {l:List (Str × V)} (h:σ[n]? = some (.dict l)):selF m ms (some .get) (.ref n) σ = some .bm:=by show (σ[n]?).bind _ = _; rw [h]; rfl
end
section
variable {rows:List Row} {i:Nat} {r:Row}
theorem attr_rows:attrF (tree rows) (.ref 0) "rows" [536] = some (.ref 1):=attr_ref tree_0 (by decide) (by kernel_rfl)
theorem sub_rows (hi:i < rows.length) (hb:rows.length <= big):subF (tree rows) (.ref 1) (iv i) = some (.ref (2 + 4 * i)):=sub_ref tree_1 (refs_get hi) (by rw [refs_len]; exact hb)
theorem sel_tree {m:Str} {f:Addr} {b:Option BM} (h:(m == ("rows":Str)) = false):selF m [(536,f)] b (.ref 0) (tree rows) = some (.fn f):=selF_inst tree_0 (by simp only [List.lookup,h]) rfl
theorem at_ {x:Str} {v:V} (h:rows[i]? = some r) (e:(rowFs (2 + 4 * i) r).lookup x = some v):attrF (tree rows) (.ref (2 + 4 * i)) x [347] = some v:=attr_ref (tree_row h) (by decide) e
theorem at_kind (h:rows[i]? = some r):attrF (tree rows) (.ref (2 + 4 * i)) "kind" [347] = some (.str r.kind):=at_ h (by kernel_rfl)
theorem at_name (h:rows[i]? = some r):attrF (tree rows) (.ref (2 + 4 * i)) "name" [347] = some (.str r.name):=at_ h (by kernel_rfl)
theorem at_uri (h:rows[i]? = some r):attrF (tree rows) (.ref (2 + 4 * i)) "uri" [347] = some (.str r.uri):=at_ h (by kernel_rfl)
theorem at_loc (h:rows[i]? = some r):attrF (tree rows) (.ref (2 + 4 * i)) "local" [347] = some (.str r.loc):=at_ h (by kernel_rfl)
theorem at_ch (h:rows[i]? = some r):attrF (tree rows) (.ref (2 + 4 * i)) "children" [347] = some (.ref (2 + 4 * i + 1)):=at_ h (by kernel_rfl)
theorem at_ats (h:rows[i]? = some r):attrF (tree rows) (.ref (2 + 4 * i)) "attributes" [347] = some (.ref (2 + 4 * i + 2)):=at_ h (by kernel_rfl)
theorem at_nss (h:rows[i]? = some r):attrF (tree rows) (.ref (2 + 4 * i)) "namespaces" [347] = some (.ref (2 + 4 * i + 3)):=at_ h (by kernel_rfl)
theorem ivs_len {l:List Nat}:(ivs l).length = l.length:=List.length_map _
end
section
variable {wf n:Nat} {rows:List Row} {i:Nat} {r:Row}
theorem row_at (h:rows[i]? = some r) (hb:rows.length <= big):Ok (R0 wf (n + 1) 379 [.ref 0,iv i] [] (tree rows)) (.ref (2 + 4 * i)) (tree rows):=by
 have hl:=lt_of_get h
 have e:=len_ref (mk:=false) (tree_1 (rows:=rows)) (by rw [refs_len]; exact hb)
 rw [refs_len] at e
 refine ok_r0 rfl rfl fun P kk => ?_
 repeat (first | refine el_ok (by first | with_reducible exact e | with_reducible exact attr_rows | with_reducible exact sub_rows hl hb | with_reducible exact kk | exact rfl | (w_strict (simp [hl] <;> fail))) ?_ | refine elo_ok (by first | with_reducible exact e | with_reducible exact attr_rows | with_reducible exact sub_rows hl hb | with_reducible exact kk | exact rfl | (w_strict (simp [hl] <;> fail))) ?_ | refine ca_ok (by first | exact e | exact attr_rows | exact sub_rows hl hb | exact kk) ?_ | refine br_t (by first | with_reducible exact e | with_reducible exact attr_rows | with_reducible exact sub_rows hl hb | with_reducible exact kk | exact rfl | (w_strict (simp [hl] <;> fail))) ?_ | refine br_f (by first | with_reducible exact e | with_reducible exact attr_rows | with_reducible exact sub_rows hl hb | with_reducible exact kk | exact rfl | (w_strict (simp [hl] <;> fail))) ?_ | exact e | exact attr_rows | exact sub_rows hl hb | exact kk)
noncomputable abbrev acc (x:Str):CF:=⟨2,"node",[],0,(.cons (.ret (.attr (.meth false (.var 0) "row" [(536,379)] .none (.cons (.var 1) .nil) [] .nil) x [347])) .nil),false⟩
noncomputable abbrev accL (x:Str):CF:=⟨2,"node",[],0,(.cons (.ret (.bf false .list (.cons (.attr (.meth false (.var 0) "row" [(536,379)] .none (.cons (.var 1) .nil) [] .nil) x [347]) .nil))) .nil),false⟩
theorem acc_at {f:Addr} {x:Str} {v:V} (c:fns f = some (acc x)) (h:rows[i]? = some r) (hb:rows.length <= big) (e:(rowFs (2 + 4 * i) r).lookup x = some v):Ok (R0 wf (n + 2) f [.ref 0,iv i] [] (tree rows)) v (tree rows):=by
 refine ok_r0 c rfl fun P kk => ?_
 repeat (first | refine el_ok (by first | with_reducible exact sel_tree (by kernel_rfl) | with_reducible exact row_at h hb | with_reducible exact at_ h e | with_reducible exact kk | exact rfl | (w_strict (simp [] <;> fail))) ?_ | refine elo_ok (by first | with_reducible exact sel_tree (by kernel_rfl) | with_reducible exact row_at h hb | with_reducible exact at_ h e | with_reducible exact kk | exact rfl | (w_strict (simp [] <;> fail))) ?_ | refine ca_ok (by first | exact sel_tree (by kernel_rfl) | exact row_at h hb | exact at_ h e | exact kk) ?_ | refine br_t (by first | with_reducible exact sel_tree (by kernel_rfl) | with_reducible exact row_at h hb | with_reducible exact at_ h e | with_reducible exact kk | exact rfl | (w_strict (simp [] <;> fail))) ?_ | refine br_f (by first | with_reducible exact sel_tree (by kernel_rfl) | with_reducible exact row_at h hb | with_reducible exact at_ h e | with_reducible exact kk | exact rfl | (w_strict (simp [] <;> fail))) ?_ | exact sel_tree (by kernel_rfl) | exact row_at h hb | exact at_ h e | exact kk)
theorem accL_at {f:Addr} {x:Str} {j:Nat} {l:List Nat} (c:fns f = some (accL x)) (h:rows[i]? = some r) (hb:rows.length <= big) (e:(rowFs (2 + 4 * i) r).lookup x = some (.ref j)) (hj:(tree rows)[j]? = some (.list (ivs l))) (hl:l.length <= big):Ok (R0 wf (n + 2) f [.ref 0,iv i] [] (tree rows)) (.lst (ivs l)) (tree rows):=by
 refine ok_r0 c rfl fun P kk => ?_
 repeat (first | refine el_ok (by first | with_reducible exact sel_tree (by kernel_rfl) | with_reducible exact row_at h hb | with_reducible exact at_ h e | with_reducible exact list_ref hj (by rw [ivs_len]; exact hl) | with_reducible exact kk | exact rfl | (w_strict (simp [] <;> fail))) ?_ | refine elo_ok (by first | with_reducible exact sel_tree (by kernel_rfl) | with_reducible exact row_at h hb | with_reducible exact at_ h e | with_reducible exact list_ref hj (by rw [ivs_len]; exact hl) | with_reducible exact kk | exact rfl | (w_strict (simp [] <;> fail))) ?_ | refine ca_ok (by first | exact sel_tree (by kernel_rfl) | exact row_at h hb | exact at_ h e | exact list_ref hj (by rw [ivs_len]; exact hl) | exact kk) ?_ | refine br_t (by first | with_reducible exact sel_tree (by kernel_rfl) | with_reducible exact row_at h hb | with_reducible exact at_ h e | with_reducible exact list_ref hj (by rw [ivs_len]; exact hl) | with_reducible exact kk | exact rfl | (w_strict (simp [] <;> fail))) ?_ | refine br_f (by first | with_reducible exact sel_tree (by kernel_rfl) | with_reducible exact row_at h hb | with_reducible exact at_ h e | with_reducible exact list_ref hj (by rw [ivs_len]; exact hl) | with_reducible exact kk | exact rfl | (w_strict (simp [] <;> fail))) ?_ | exact sel_tree (by kernel_rfl) | exact row_at h hb | exact at_ h e | exact list_ref hj (by rw [ivs_len]; exact hl) | exact kk)
theorem kind_at (h:rows[i]? = some r) (hb:rows.length <= big):Ok (R0 wf (n + 2) 456 [.ref 0,iv i] [] (tree rows)) (.str r.kind) (tree rows):=acc_at rfl h hb (by kernel_rfl)
theorem name_at (h:rows[i]? = some r) (hb:rows.length <= big):Ok (R0 wf (n + 2) 463 [.ref 0,iv i] [] (tree rows)) (.str r.name) (tree rows):=acc_at rfl h hb (by kernel_rfl)
theorem uri_at (h:rows[i]? = some r) (hb:rows.length <= big):Ok (R0 wf (n + 2) 470 [.ref 0,iv i] [] (tree rows)) (.str r.uri) (tree rows):=acc_at rfl h hb (by kernel_rfl)
theorem loc_at (h:rows[i]? = some r) (hb:rows.length <= big):Ok (R0 wf (n + 2) 477 [.ref 0,iv i] [] (tree rows)) (.str r.loc) (tree rows):=acc_at rfl h hb (by kernel_rfl)
theorem val_at (h:rows[i]? = some r) (hb:rows.length <= big):Ok (R0 wf (n + 2) 484 [.ref 0,iv i] [] (tree rows)) (.str r.val) (tree rows):=acc_at rfl h hb (by kernel_rfl)
theorem par_at (h:rows[i]? = some r) (hb:rows.length <= big):Ok (R0 wf (n + 2) 491 [.ref 0,iv i] [] (tree rows)) (pv r.par) (tree rows):=acc_at rfl h hb (by kernel_rfl)
theorem ch_at (h:rows[i]? = some r) (hb:rows.length <= big) (hc:r.ch.length <= big):Ok (R0 wf (n + 2) 498 [.ref 0,iv i] [] (tree rows)) (.lst (ivs r.ch)) (tree rows):=accL_at rfl h hb (by kernel_rfl) (tree_ch h) hc
theorem ats_at (h:rows[i]? = some r) (hb:rows.length <= big) (hc:r.ats.length <= big):Ok (R0 wf (n + 2) 505 [.ref 0,iv i] [] (tree rows)) (.lst (ivs r.ats)) (tree rows):=accL_at rfl h hb (by kernel_rfl) (tree_ats h) hc
theorem nss_at (h:rows[i]? = some r) (hb:rows.length <= big) (hc:r.nss.length <= big):Ok (R0 wf (n + 2) 512 [.ref 0,iv i] [] (tree rows)) (.lst (ivs r.nss)) (tree rows):=accL_at rfl h hb (by kernel_rfl) (tree_nss h) hc
end
section
variable {σ ext:St} {c c':Cell}
theorem app_get:(σ ++ c :: ext)[σ.length]? = some c:=by rw [List.getElem?_append_right (Nat.le_refl _),Nat.sub_self]; rfl
theorem app_set:(σ ++ c :: ext).set σ.length c' = σ ++ c' :: ext:=by rw [List.set_append_right _ _ (Nat.le_refl _),Nat.sub_self]; rfl
theorem cls_oky {cx:Cx} {a f:Addr} {args:List V} {σ':St} (hp:cx.packed a = false) (h:Ok (cx.call f (.ref σ.length :: args) [] (σ ++ [.inst a []])) .none σ'):Ok (clsF cx a f args σ) (.ref σ.length) σ':=fun K X k => by
 unfold clsF; rw [hp]; exact h _ _ ⟨rfl,k⟩
theorem sa_app {fs:List (Str × V)} {x:Str} {v:V} (hl:fs.length < 1000):setAttrF (.ref σ.length) x [347] v (σ ++ .inst 347 fs :: ext) = some (σ ++ .inst 347 (upd fs x v) :: ext):=by
 rw [setattr_ref app_get (by decide) hl,app_set]
theorem sa_new {fs:List (Str × V)} {x:Str} (hl:fs.length < 1000):setAttrF (.ref σ.length) x [347] (.ref (σ ++ .inst 347 fs :: ext).length) (σ ++ .inst 347 fs :: ext ++ [.list []]) = some (σ ++ .inst 347 (upd fs x (.ref (σ.length + (1 + ext.length)))) :: (ext ++ [.list []])):=by
 rw [List.append_assoc,List.cons_append,sa_app hl,List.length_append,List.length_cons,Nat.add_comm ext.length]
end
section
variable {wf n:Nat} {rows:List Row} {i:Nat} {r:Row}
theorem row_init {σ:St} {a b c d e:Str} {p:Option Nat}:Ok (R0 wf (n + 1) 344 [.ref σ.length,.str a,.str b,.str c,.str d,.str e,pv p] [] (σ ++ [.inst 347 []])) .none (σ ++ rowCells σ.length ⟨a,b,c,d,e,p,[],[],[]⟩):=by
 refine ok_r0 rfl rfl fun P kk => ?_
 iterate 6 refine elo_ok (sa_app (Nat.le_of_ble_eq_true (by kernel_rfl))) ?_
 iterate 3 refine elo_ok (sa_new (Nat.le_of_ble_eq_true (by kernel_rfl))) ?_
 exact kk
theorem new_row {a b c d e:Str} {p:Option Nat} (hb:rows.length < big):Ok (R0 wf (n + 2) 372 [.ref 0,.str a,.str b,.str c,.str d,.str e,pv p] [] (tree rows)) (iv rows.length) (tree (rows ++ [⟨a,b,c,d,e,p,[],[],[]⟩])):=by
 have e1:(tree rows ++ rowCells (tree rows).length ⟨a,b,c,d,e,p,[],[],[]⟩)[1]? = some (.list (refs rows.length)):=rfl
 have e2:(tree rows ++ rowCells (tree rows).length ⟨a,b,c,d,e,p,[],[],[]⟩).set 1 (.list (refs rows.length ++ [.ref (tree rows).length])) = tree (rows ++ [⟨a,b,c,d,e,p,[],[],[]⟩]):=by
  rw [tree_len,tree,tree,body_push,List.length_append,List.length_singleton,refs_succ]; rfl
 have e3:=append_ref (mk:=false) (v:=.ref (tree rows).length) e1 (by rw [refs_len]; exact hb)
 rw [e2] at e3
 have l2:=len_ref (mk:=false) (tree_1 (rows:=rows ++ [⟨a,b,c,d,e,p,[],[],[]⟩])) (by rw [refs_len,List.length_append]; exact hb)
 rw [refs_len,List.length_append] at l2
 have e4:((rows.length:Int) + 1) - 1 = rows.length:=Int.add_sub_cancel _ _
 refine ok_r0 rfl rfl fun P kk => ?_
 refine elo_ok attr_rows (elo_ok (selF_append tree_1) (ca_ok (cls_oky rfl (row_init (n:=n))) (el_ok e3 (elo_ok attr_rows (el_ok l2 (el_ok rfl ?_))))))
 show P.ret (.int (((rows.length:Int) + 1) - 1)) _
 rw [e4]; exact kk
theorem new_root (hb:rows.length < big):Ok (R0 wf (n + 3) 386 [.ref 0] [] (tree rows)) (iv rows.length) (tree (rows ++ [⟨"root",T [],T [],T [],T [],none,[],[],[]⟩])) :=
 ok_r0 rfl rfl fun P kk => elo_ok (sel_tree (by kernel_rfl)) (ca_ok (new_row (p:=none) hb) kk)
theorem kind_in {k:Str} (h:k = "root" \/ k = "element") {σ:St}:cmpQ σ .NotIn (.str k) (.tup [.str "root",.str "element"]) = some false:=by
 rcases h with rfl | rfl <;> kernel_rfl
noncomputable def kid (rows:List Row) (p:Nat) (r:Row) (new:Row):List Row:=(rows ++ [new]).set p { r with ch:=r.ch ++ [rows.length] }
theorem ivs_app {l:List Nat} {i:Nat}:ivs (l ++ [i]) = ivs l ++ [iv i]:=List.map_append
theorem get_app {α:Type} {l m:List α} {i:Nat} {r:α} (h:l[i]? = some r):(l ++ m)[i]? = some r:=by rw [List.getElem?_append_left (lt_of_get h)]; exact h
theorem add_child {p:Nat} {a b c d e:Str} (h:rows[p]? = some r) (hk:r.kind = "root" \/ r.kind = "element") (hb:rows.length < big) (hc:r.ch.length < big) :
  Ok (R0 wf (n + 3) 393 [.ref 0,iv p,.str a,.str b,.str c,.str d,.str e] [] (tree rows)) (iv rows.length) (tree (kid rows p r ⟨a,b,c,d,e,some p,[],[],[]⟩)):=by
 have h':=get_app (m:=[(⟨a,b,c,d,e,some p,[],[],[]⟩:Row)]) h
 have hs:=sub_rows (i:=p) (lt_of_get h') (by rw [List.length_append]; exact hb)
 have hap:=append_ref (mk:=false) (v:=iv rows.length) (tree_ch h') (by rw [ivs_len]; exact hc)
 rw [tree_set (r':={ r with ch:=r.ch ++ [rows.length] }) h' (by decide) (by rw [rowCells,rowCells,ivs_app]; rfl)] at hap
 exact ok_r0 rfl rfl fun P kk => elo_ok rfl (br_t rfl (elo_ok (sel_tree (by kernel_rfl)) (ca_ok (row_at h (Nat.le_of_lt hb)) (elo_ok (at_kind h) (elo_ok (kind_in hk) (br_f rfl (br_f rfl (elo_ok (sel_tree (by kernel_rfl)) (ca_ok (new_row (p:=some p) hb)
  (elo_ok rfl (br_t rfl (elo_ok attr_rows (elo_ok hs (elo_ok (at_ch h') (elo_ok (selF_append (tree_ch h')) (el_ok hap kk))))))))))))))))
theorem add_element {p:Nat} {b c d:Str} (h:rows[p]? = some r) (hk:r.kind = "root" \/ r.kind = "element") (hb:rows.length < big) (hc:r.ch.length < big) :
  Ok (R0 wf (n + 4) 400 [.ref 0,iv p,.str b,.str c,.str d] [] (tree rows)) (iv rows.length) (tree (kid rows p r ⟨"element",b,c,d,T [],some p,[],[],[]⟩)) :=
 ok_r0 rfl rfl fun P kk => elo_ok (sel_tree (by kernel_rfl)) (ca_ok (add_child h hk hb hc) kk)
theorem add_text {p:Nat} {e:Str} (h:rows[p]? = some r) (hk:r.kind = "root" \/ r.kind = "element") (hb:rows.length < big) (hc:r.ch.length < big) :
  Ok (R0 wf (n + 4) 407 [.ref 0,iv p,.str e] [] (tree rows)) (iv rows.length) (tree (kid rows p r ⟨"text",T [],T [],T [],e,some p,[],[],[]⟩)) :=
 ok_r0 rfl rfl fun P kk => elo_ok (sel_tree (by kernel_rfl)) (ca_ok (add_child h hk hb hc) kk)
theorem add_comment {p:Nat} {e:Str} (h:rows[p]? = some r) (hk:r.kind = "root" \/ r.kind = "element") (hb:rows.length < big) (hc:r.ch.length < big) :
  Ok (R0 wf (n + 4) 414 [.ref 0,iv p,.str e] [] (tree rows)) (iv rows.length) (tree (kid rows p r ⟨"comment",T [],T [],T [],e,some p,[],[],[]⟩)) :=
 ok_r0 rfl rfl fun P kk => elo_ok (sel_tree (by kernel_rfl)) (ca_ok (add_child h hk hb hc) kk)
theorem add_instruction {p:Nat} {t e:Str} (h:rows[p]? = some r) (hk:r.kind = "root" \/ r.kind = "element") (hb:rows.length < big) (hc:r.ch.length < big) :
  Ok (R0 wf (n + 4) 421 [.ref 0,iv p,.str t,.str e] [] (tree rows)) (iv rows.length) (tree (kid rows p r ⟨"instruction",t,T [],t,e,some p,[],[],[]⟩)) :=
 ok_r0 rfl rfl fun P kk => elo_ok (sel_tree (by kernel_rfl)) (ca_ok (add_child h hk hb hc) kk)
theorem ne_self {σ:St} {s:Str} (h:s = "element"):cmpQ σ .NotEq (.str s) (.str "element") = some false:=by subst h; kernel_rfl
theorem element_row (h:rows[i]? = some r) (hk:r.kind = "element") (hb:rows.length <= big):Ok (R0 wf (n + 2) 428 [.ref 0,iv i] [] (tree rows)) (.ref (2 + 4 * i)) (tree rows) :=
 ok_r0 rfl rfl fun P kk => elo_ok (sel_tree (by kernel_rfl)) (ca_ok (row_at h hb) (elo_ok (at_kind h) (elo_ok (ne_self hk) (br_f rfl kk))))
noncomputable abbrev B1 (i:Nat) (b:CSs):V -> SC:=fun x e fr σ N => evSs b e (setF fr i x) σ N
noncomputable abbrev frA (i:Nat) (nm u l v:Str) (x y:Option V):Fr:=[some (.ref 0),some (iv i),some (.str nm),some (.str u),some (.str l),some (.str v),some (.ref (2 + 4 * i)),x,y]
noncomputable def bodyA:CSs:=(.cons (.asg 8 (.sub (.attr (.var 0) "rows" [536]) (.var 7))) (.cons (.ite (.and (.cmp (.attr (.var 8) "uri" [347]) [.Eq] (.cons (.var 3) .nil)) (.and (.cmp (.attr (.var 8) "local" [347]) [.Eq] (.cons (.var 4) .nil)) (.const (.bool true)))) (.cons (.setattr (.var 8) "name" [347] (.var 2)) (.cons (.setattr (.var 8) "value" [347] (.var 5)) (.cons (.ret (.var 7)) .nil))) .nil) .nil))
theorem eqs_t {σ:St} {a b:Str} (h:a = b):cmpQ σ .Eq (.str a) (.str b) = some true:=congrArg some (decide_eq_true h)
theorem eqs_f {σ:St} {a b:Str} (h:a ≠ b):cmpQ σ .Eq (.str a) (.str b) = some false:=congrArg some (decide_eq_false h)
theorem nes_t {σ:St} {a b:Str} (h:a ≠ b):cmpQ σ .NotEq (.str a) (.str b) = some true:=congrArg (fun x => some (!x)) (decide_eq_false h)
theorem nes_f {σ:St} {a b:Str} (h:a = b):cmpQ σ .NotEq (.str a) (.str b) = some false:=congrArg (fun x => some (!x)) (decide_eq_true h)
theorem turnA {P:PX} {N:KN} {j:Nat} {q:Row} {nm u l v:Str} {x y:Option V} (hq:rows[j]? = some q) (hn:¬ (q.uri = u /\ q.loc = l)) (hb:rows.length <= big)
  (k:N ⟨cx0 wf n,P⟩ (frA i nm u l v (some (iv j)) (some (.ref (2 + 4 * j)))) (tree rows)):B1 7 bodyA (iv j) ⟨cx0 wf n,P⟩ (frA i nm u l v x y) (tree rows) N:=by
 refine elo_ok attr_rows (elo_ok (sub_rows (lt_of_get hq) hb) (elo_ok (at_uri hq) ?_))
 by_cases h1:q.uri = u
 ·exact elo_ok (eqs_t h1) (br_t rfl (elo_ok (at_loc hq) (elo_ok (eqs_f fun z => hn ⟨h1,z⟩) (br_f rfl (br_f rfl k)))))
 ·exact elo_ok (eqs_f h1) (br_f rfl (br_f rfl k))
theorem set_name {j:Nat} {q:Row} {nm:Str} (hq:rows[j]? = some q):setAttrF (.ref (2 + 4 * j)) "name" [347] (.str nm) (tree rows) = some (tree (rows.set j { q with name:=nm })):=by
 exact (setattr_ref (tree_row hq) (by decide) (Nat.le_of_ble_eq_true (by kernel_rfl))).trans (congrArg some (tree_set (j:=0) (r':={ q with name:=nm }) hq (by decide) (by kernel_rfl)))
theorem set_val {j:Nat} {q:Row} {v:Str} (hq:rows[j]? = some q):setAttrF (.ref (2 + 4 * j)) "value" [347] (.str v) (tree rows) = some (tree (rows.set j { q with val:=v })):=by
 exact (setattr_ref (tree_row hq) (by decide) (Nat.le_of_ble_eq_true (by kernel_rfl))).trans (congrArg some (tree_set (j:=0) (r':={ q with val:=v }) hq (by decide) (by kernel_rfl)))
theorem set_both {j:Nat} {q:Row} {nm v:Str} (hq:rows[j]? = some q):setAttrF (.ref (2 + 4 * j)) "value" [347] (.str v) (tree (rows.set j { q with name:=nm })) = some (tree (rows.set j { q with name:=nm,val:=v })):=by
 rw [set_val (q:={ q with name:=nm }) (List.getElem?_set_self (lt_of_get hq)),List.set_set]
theorem hitA {P:PX} {N:KN} {j:Nat} {q:Row} {nm u l v:Str} {x y:Option V} (hq:rows[j]? = some q) (hn:q.uri = u /\ q.loc = l) (hb:rows.length <= big)
  (k:P.ret (iv j) (tree (rows.set j { q with name:=nm,val:=v }))):B1 7 bodyA (iv j) ⟨cx0 wf n,P⟩ (frA i nm u l v x y) (tree rows) N :=
 elo_ok attr_rows (elo_ok (sub_rows (lt_of_get hq) hb) (elo_ok (at_uri hq) (elo_ok (eqs_t hn.1) (br_t rfl (elo_ok (at_loc hq) (elo_ok (eqs_t hn.2) (br_t rfl (br_t rfl (elo_ok (set_name hq) (elo_ok (set_both hq) k))))))))))
theorem scanA {P:PX} {N:KN} {nm u l v:Str} (hb:rows.length <= big) {k:St -> Bool} (hk:k (tree rows) = true) (kk:∀ x y,N ⟨cx0 wf n,P⟩ (frA i nm u l v x y) (tree rows)):∀ (is:List Nat) (x y:Option V),(∀ j ∈ is,∃ q,rows[j]? = some q /\ ¬ (q.uri = u /\ q.loc = l)) ->
  forP k (B1 7 bodyA) (ivs is) ⟨cx0 wf n,P⟩ (frA i nm u l v x y) (tree rows) N
 | [],x,y,_ => ⟨hk,kk x y⟩
 | j :: is,x,y,h => ⟨hk,let ⟨q,hq,hn⟩:=h j (.head _); turnA hq hn hb (scanA hb hk kk is _ _ fun j hj => h j (.tail _ hj))⟩
theorem scanA_hit {P:PX} {N:KN} {nm u l v:Str} (hb:rows.length <= big) {k:St -> Bool} (hk:k (tree rows) = true) {j:Nat} {q:Row} (hq:rows[j]? = some q) (hn:q.uri = u /\ q.loc = l) {post:List Nat} (kk:P.ret (iv j) (tree (rows.set j { q with name:=nm,val:=v }))):∀ (is:List Nat) (x y:Option V),(∀ j ∈ is,∃ q,rows[j]? = some q /\ ¬ (q.uri = u /\ q.loc = l)) ->
  forP k (B1 7 bodyA) (ivs (is ++ j :: post)) ⟨cx0 wf n,P⟩ (frA i nm u l v x y) (tree rows) N
 | [],x,y,_ => ⟨hk,hitA hq hn hb kk⟩
 | j' :: is,x,y,h => ⟨hk,let ⟨q',hq',hn'⟩:=h j' (.head _); turnA hq' hn' hb (scanA_hit hb hk hq hn kk is _ _ fun j hj => h j (.tail _ hj))⟩
noncomputable def atted (rows:List Row) (i:Nat) (r:Row) (new:Row):List Row:=(rows ++ [new]).set i { r with ats:=r.ats ++ [rows.length] }
noncomputable def nssed (rows:List Row) (i:Nat) (r:Row) (new:Row):List Row:=(rows ++ [new]).set i { r with nss:=r.nss ++ [rows.length] }
theorem keep_ref {σ:St} {k:Nat} {l:List V} (h:σ[k]? = some (.list l)):keepB (.ref k) l σ = true:=by
 show (lstAt σ k).any _ = true
 rw [lstAt_eq h]; exact eqbs_refl l
theorem items_ref {σ:St} {n:Nat} {l:List V} (h:σ[n]? = some (.list l)):itemsOf σ (.ref n) = some l:=lstAt_eq h
theorem set_attr_new {nm u l v:Str} (h:rows[i]? = some r) (hk:r.kind = "element") (hb:rows.length < big) (hc:r.ats.length < big) (hn:∀ j ∈ r.ats,∃ q,rows[j]? = some q /\ ¬ (q.uri = u /\ q.loc = l)) :
  Ok (R0 wf (n + 3) 435 [.ref 0,iv i,.str nm,.str u,.str l,.str v] [] (tree rows)) (iv rows.length) (tree (atted rows i r ⟨"attribute",nm,u,l,v,some i,[],[],[]⟩)):=by
 have h':=get_app (m:=[(⟨"attribute",nm,u,l,v,some i,[],[],[]⟩:Row)]) h
 have hap:=append_ref (mk:=false) (v:=iv rows.length) (tree_ats h') (by rw [ivs_len]; exact hc)
 rw [tree_set (r':={ r with ats:=r.ats ++ [rows.length] }) h' (by decide) (by rw [rowCells,rowCells,ivs_app]; rfl)] at hap
 refine ok_r0 rfl rfl fun P kk => elo_ok (sel_tree (by kernel_rfl)) (ca_ok (element_row h hk (Nat.le_of_lt hb)) (elo_ok (at_ats h) (elo_ok (items_ref (tree_ats h)) (scanA (Nat.le_of_lt hb) (keep_ref (tree_ats h)) (fun x y => ?_) r.ats none none hn))))
 exact elo_ok (sel_tree (by kernel_rfl)) (ca_ok (new_row (p:=some i) hb) (elo_ok (at_ats h') (elo_ok (selF_append (tree_ats h')) (el_ok hap kk))))
theorem set_attr_old {nm u l v:Str} {j:Nat} {q:Row} {pre post:List Nat} (h:rows[i]? = some r) (hk:r.kind = "element") (hb:rows.length < big) (e:r.ats = pre ++ j :: post) (hq:rows[j]? = some q) (hm:q.uri = u /\ q.loc = l)
  (hn:∀ j ∈ pre,∃ q,rows[j]? = some q /\ ¬ (q.uri = u /\ q.loc = l)) :
  Ok (R0 wf (n + 3) 435 [.ref 0,iv i,.str nm,.str u,.str l,.str v] [] (tree rows)) (iv j) (tree (rows.set j { q with name:=nm,val:=v })) :=
 ok_r0 rfl rfl fun P kk => elo_ok (sel_tree (by kernel_rfl)) (ca_ok (element_row h hk (Nat.le_of_lt hb)) (elo_ok (at_ats h) (elo_ok (items_ref (tree_ats h)) (by
  have:=keep_ref (tree_ats h)
  rw [e] at this ⊢
  exact scanA_hit (Nat.le_of_lt hb) this hq hm kk pre none none hn))))
noncomputable abbrev frN (i:Nat) (p u:Str) (x:Option V):Fr:=[some (.ref 0),some (iv i),some (.str p),some (.str u),some (.ref (2 + 4 * i)),x]
noncomputable def bodyN:CSs:=(.cons (.ite (.cmp (.attr (.sub (.attr (.var 0) "rows" [536]) (.var 5)) "name" [347]) [.Eq] (.cons (.var 2) .nil)) (.cons (.setattr (.sub (.attr (.var 0) "rows" [536]) (.var 5)) "value" [347] (.var 3)) (.cons (.ret (.var 5)) .nil)) .nil) .nil)
theorem scanN {P:PX} {N:KN} {p u:Str} (hb:rows.length <= big) {k:St -> Bool} (hk:k (tree rows) = true) (kk:∀ x,N ⟨cx0 wf n,P⟩ (frN i p u x) (tree rows)):∀ (is:List Nat) (x:Option V),(∀ j ∈ is,∃ q,rows[j]? = some q /\ q.name ≠ p) ->
  forP k (B1 5 bodyN) (ivs is) ⟨cx0 wf n,P⟩ (frN i p u x) (tree rows) N
 | [],x,_ => ⟨hk,kk x⟩
 | j :: is,x,h => ⟨hk,let ⟨q,hq,hn⟩:=h j (.head _); elo_ok attr_rows (elo_ok (sub_rows (lt_of_get hq) hb) (elo_ok (at_name hq) (elo_ok (eqs_f hn) (br_f rfl (scanN hb hk kk is _ fun j hj => h j (.tail _ hj))))))⟩
theorem add_ns_new {p u:Str} (h:rows[i]? = some r) (hk:r.kind = "element") (hb:rows.length < big) (hc:r.nss.length < big) (hn:∀ j ∈ r.nss,∃ q,rows[j]? = some q /\ q.name ≠ p) :
  Ok (R0 wf (n + 3) 442 [.ref 0,iv i,.str p,.str u] [] (tree rows)) (iv rows.length) (tree (nssed rows i r ⟨"namespace",p,T [],p,u,some i,[],[],[]⟩)):=by
 have h':=get_app (m:=[(⟨"namespace",p,T [],p,u,some i,[],[],[]⟩:Row)]) h
 have hap:=append_ref (mk:=false) (v:=iv rows.length) (tree_nss h') (by rw [ivs_len]; exact hc)
 rw [tree_set (r':={ r with nss:=r.nss ++ [rows.length] }) h' (by decide) (by rw [rowCells,rowCells,ivs_app]; rfl)] at hap
 refine ok_r0 rfl rfl fun P kk => elo_ok (sel_tree (by kernel_rfl)) (ca_ok (element_row h hk (Nat.le_of_lt hb)) (elo_ok (at_nss h) (elo_ok (items_ref (tree_nss h)) (scanN (Nat.le_of_lt hb) (keep_ref (tree_nss h)) (fun x => ?_) r.nss none hn))))
 exact elo_ok (sel_tree (by kernel_rfl)) (ca_ok (new_row (p:=some i) hb) (elo_ok (at_nss h') (elo_ok (selF_append (tree_nss h')) (el_ok hap kk))))
end
noncomputable def Src (a b:Int):Prop:=0 <= a /\ 0 <= b /\ b < 2147483647
noncomputable def src (a b:Int):Cell:=.list [.int a,.int b]
section
variable {wf n:Nat} {σ:St} {a b top:Int} {K:V -> St -> Prop} {X:Addr -> St -> Prop}
theorem src_0 (e:σ[0]? = some (src a b)):subF σ (.ref 0) (.int 0) = some (.int a):=sub_ref (i:=0) e rfl (by show 2 <= big; decide)
theorem src_1 (e:σ[0]? = some (src a b)):subF σ (.ref 0) (.int 1) = some (.int b):=sub_ref (i:=1) e rfl (by show 2 <= big; decide)
theorem set_lst {i:Int} {v:V} {l:List V} {j:Nat} (e:σ[j]? = some (.list l)) (h:0 <= i /\ i < 2 ^ 63 /\ i.toNat < l.length):setItemF (.ref j) (.int i) v σ = some (σ.set j (.list (l.set i.toNat v))):=by
 show Option.map _ ((lstAt σ j).bind _) = _
 rw [lstAt_eq e,Option.bind_some,if_pos h]; rfl
theorem src_set0 {x:Int} (e:σ[0]? = some (src a b)):setItemF (.ref 0) (.int 0) (.int x) σ = some (σ.set 0 (src x b)):=set_lst e ⟨by decide,by decide,show 0 < 2 by decide⟩
theorem src_set1 {x:Int} (e:σ[0]? = some (src a b)):setItemF (.ref 0) (.int 1) (.int x) σ = some (σ.set 0 (src a x)):=set_lst e ⟨by decide,by decide,show 1 < 2 by decide⟩
theorem add_ok {x y:Int} {mk:Bool}:binF mk .Add (.int x) (.int y) σ = .ok (.int (x + y)) σ:=rfl
theorem sub_ok {x y:Int} {mk:Bool}:binF mk .Sub (.int x) (.int y) σ = .ok (.int (x - y)) σ:=rfl
theorem int_oky {x:Int} {mk:Bool}:bfF mk .int [.int x] σ = .ok (.int x) σ:=rfl
theorem mod_ok {x y:Int} {mk:Bool} (h:0 < y):binF mk .Mod (.int x) (.int y) σ = .ok (.int (Int.fmod x y)) σ:=if_pos h
theorem fd_ok {x y:Int} {mk:Bool} (h:0 < y) (h2:y < 2 ^ 60):binF mk .FloorDiv (.int x) (.int y) σ = .ok (.int (Int.fdiv x y)) σ:=if_pos ⟨h,h2⟩
theorem mul_ok {x y:Int} {mk:Bool} (h:x.natAbs < 2 ^ 64 \/ y.natAbs < 2 ^ 64):binF mk .Mult (.int x) (.int y) σ = .ok (.int (x * y)) σ:=if_pos h
theorem set_get {c:Cell} (e:σ[0]? = some c) {d:Cell}:(σ.set 0 d)[0]? = some d:=List.getElem?_set_self (lt_of_get e)
theorem set_get_ne {k:Nat} {c:Cell} (h:k ≠ 0):(σ.set 0 c)[k]? = σ[k]?:=List.getElem?_set_ne (Ne.symm h)
theorem take_ok (e:σ[0]? = some (src a b)) (h:Src a b) (ht:0 < top) (ht2:top < 1000) (k:∀ d a' b',0 <= d -> d < top -> Src a' b' -> K (.int d) (σ.set 0 (src a' b'))):R1 wf (n + 1) 554 [.ref 0,.int top] [] σ K X:=by
 obtain ⟨h1,h2,h3⟩:=h
 refine r1_of rfl rfl fun P hr _ => elo_ok (src_0 e) (elo_ok rfl ?_)
 by_cases c:0 < a
 ·exact br_t (decide_eq_true c) (elo_ok (src_0 e) (el_ok int_oky (el_ok (mod_ok ht) (elo_ok (src_0 e) (el_ok (fd_ok ht (Int.lt_trans ht2 (by decide))) (elo_ok (src_set0 e)
   (hr _ _ (k _ _ _ (Int.fmod_nonneg_of_pos _ ht) (Int.fmod_lt_of_pos _ ht) ⟨Int.fdiv_nonneg h1 (Int.le_of_lt ht),h2,h3⟩))))))))
 ·have m1:(0:Int) < 2147483647:=by decide
  have b':=Int.fmod_nonneg_of_pos (b * 39373 + 7) m1
  have b'':=Int.fmod_lt_of_pos (b * 39373 + 7) m1
  refine br_f (decide_eq_false c) (elo_ok (src_1 e) (el_ok (mul_ok (.inr (by decide))) (el_ok add_ok (el_ok int_oky (el_ok (mod_ok m1) (elo_ok (src_set1 e) ?_))))))
  generalize Int.fmod (b * 39373 + 7) 2147483647 = x at b' b''
  have e2:=set_get e (d:=src a x)
  have q:x.natAbs < 2 ^ 64:=by lia
  refine elo_ok (src_1 e2) ?_
  refine elo_ok (src_1 e2) ?_
  refine el_ok (mul_ok (.inl q)) ?_
  refine el_ok int_oky ?_
  refine el_ok (mod_ok (by decide)) ?_
  refine el_ok (fd_ok (by decide) (by decide)) ?_
  refine el_ok int_oky ?_
  refine el_ok (mod_ok ht) ?_
  exact hr _ _ (k _ _ _ (Int.fmod_nonneg_of_pos _ ht) (Int.fmod_lt_of_pos _ ht) ⟨h1,b',b''⟩)
theorem sub_lst {l:List V} {i:Nat} {v:V} (hv:l[i]? = some v) (h:l.length <= big):subF σ (.lst l) (iv i) = some v:=by
 show (some (i:Int)).bind (fun k => atL l (place l.length k)) = _
 rw [Option.bind_some,place_nat (lt_of_get hv) h]; exact hv
theorem small_big {l:List V} (h:l.length < 1000):l.length <= big:=Nat.le_of_lt (Nat.lt_trans h (by decide))
theorem pos_len {l:List V} (h0:l ≠ []):(0:Int) < l.length:=Int.natCast_pos.mpr (List.length_pos_iff.mpr h0)
theorem at_nat {l:List V} {d:Int} (h0:0 <= d) (h1:d < l.length):∃ (i:Nat) (v:V),d = i /\ l[i]? = some v:=⟨d.toNat,l[d.toNat]'(by omega),by omega,List.getElem?_eq_getElem _⟩
theorem one_lst {l:List V} (e:σ[0]? = some (src a b)) (h:Src a b) (h0:l ≠ []) (hl:l.length < 1000) (k:∀ (i:Nat) (v:V) (a' b':Int),l[i]? = some v -> Src a' b' -> K v (σ.set 0 (src a' b'))):R1 wf (n + 2) 561 [.ref 0,.lst l] [] σ K X:=by
 refine r1_of rfl rfl fun P hr _ => el_ok (len_lst (small_big hl)) (.mk (take_ok e h (pos_len h0) (Int.ofNat_lt.mpr hl) fun d a' b' d0 d1 s' => ?_))
 obtain ⟨i,v,rfl,e3⟩:=at_nat d0 d1
 exact elo_ok (sub_lst e3 (small_big hl)) (hr _ _ (k i v _ _ e3 s'))
theorem one_ref {l:List V} {j:Nat} (hk:j ≠ 0) (ek:σ[j]? = some (.list l)) (e:σ[0]? = some (src a b)) (h:Src a b) (h0:l ≠ []) (hl:l.length < 1000) (k:∀ (i:Nat) (v:V) (a' b':Int),l[i]? = some v -> Src a' b' -> K v (σ.set 0 (src a' b'))):R1 wf (n + 2) 561 [.ref 0,.ref j] [] σ K X:=by
 refine r1_of rfl rfl fun P hr _ => el_ok (len_ref ek (small_big hl)) (.mk (take_ok e h (pos_len h0) (Int.ofNat_lt.mpr hl) fun d a' b' d0 d1 s' => ?_))
 obtain ⟨i,v,rfl,e3⟩:=at_nat d0 d1
 exact elo_ok (sub_ref ((set_get_ne hk).trans ek) e3 (small_big hl)) (hr _ _ (k i v _ _ e3 s'))
theorem pool_go {ns:List Int} {c:Int} {P:PX} {x3 x4:Option V} (k:∀ a b,Src a b -> P.ret (.ref 0) [src a b]):evSs (.cons (.asg 3 (.bf false .max (.cons (.bf false .int (.cons (.var 2) .nil)) (.cons (.bf false .int (.cons (.bin false .Sub (.neg (.const (.int 1))) (.var 2)) .nil)) .nil)))) (.cons (.asg 4 (.bin false .Mod (.bf false .int (.cons (.bin false .Mult (.bin false .Add (.bin false .Add (.bin false .Add (.bin false .Mod (.bf false .int (.cons (.var 3) .nil)) (.const (.int 2147483629))) (.bin false .Mult (.bin false .Mult (.const (.int 7919)) (.var 1)) (.var 1))) (.bin false .Mult (.const (.int 31)) (.var 1))) (.const (.int 17))) (.const (.int 48271))) .nil)) (.const (.int 2147483647)))) (.cons (.ret (.list true (.cons (.bin false .Mult (.var 3) (.bf false .int (.cons (.cmp (.var 3) [.GtE] (.cons (.bin false .Pow (.const (.int 10)) (.const (.int 18))) .nil)) .nil))) (.cons (.var 4) .nil)))) .nil)))
  ⟨cx1 wf n,P⟩ [some (.lst (ns.map .int)),some (.int 0),some (.int c),x3,x4] [] endN:=by
 refine el_ok int_oky (el_ok sub_ok (el_ok int_oky (el_ok (v:=.int (max c (-1 - c))) rfl ?_)))
 have hx:0 <= max c (-1 - c):=by omega
 generalize max c (-1 - c) = x at hx
 refine el_ok int_oky (el_ok (mod_ok (by decide)) (el_ok (mul_ok (.inl (by decide))) (el_ok (mul_ok (.inr (by decide))) (el_ok add_ok (el_ok (mul_ok (.inl (by decide))) (el_ok add_ok (el_ok add_ok (el_ok (mul_ok (.inr (by decide))) (el_ok int_oky (el_ok (mod_ok (by decide)) ?_))))))))))
 refine el_ok (v:=.int (10 ^ 18)) rfl (elo_ok (a:=decide (x ≥ 10 ^ 18)) rfl (el_ok (v:=.int (if decide (x ≥ 10 ^ 18) then 1 else 0)) rfl (el_ok (mul_ok (.inr ?_)) (k _ _ ⟨?_,Int.fmod_nonneg_of_pos _ (by decide),Int.fmod_lt_of_pos _ (by decide)⟩))))
 ·split <;> decide
 ·exact Int.mul_nonneg hx (by split <;> decide)
theorem pool_ok {ns:List Int} (hl:ns.length <= 63) (k:∀ a b,Src a b -> K (.ref 0) [src a b]):R1 wf (n + 1) 547 [.lst (ns.map .int),.int 0] [] [] K X:=by
 have lb:(ns.map V.int).length <= big:=small_big (by rw [List.length_map]; lia)
 refine r1_of rfl rfl fun P hr _ => el_ok (len_lst lb) (elo_ok (a:=decide ((0:Int) < (ns.map V.int).length)) rfl ?_)
 cases ns with
 | nil => exact br_f rfl (pool_go (ns:=[]) fun a b h => hr _ _ (k a b h))
 | cons c r => exact br_t (decide_eq_true (Int.natCast_pos.mpr (Nat.succ_pos _))) (elo_ok (sub_lst (i:=0) rfl lb) (pool_go (ns:=c :: r) fun a b h => hr _ _ (k a b h)))
end
theorem noref_ivs:∀ l:List Nat,V.norefs (ivs l) = true
 | [] => rfl
 | _ :: l => noref_ivs l
theorem nolst_ivs:∀ l:List Nat,V.nolsts (ivs l) = true
 | [] => rfl
 | _ :: l => nolst_ivs l
theorem nolst_refs:∀ l:List Nat,V.nolsts (l.map fun i => V.ref (2 + 4 * i)) = true
 | [] => rfl
 | _ :: l => nolst_refs l
theorem nolst_pv (o:Option Nat):(pv o).nolst = true:=by cases o <;> rfl
theorem nolst_row {b:Nat} {r:Row}:(rowCells b r).all Cell.nolst = true:=by
 show (((true && (true && (true && (true && (true && ((pv r.par).nolst && (true && (true && (true && true))))))))):Bool) && (V.nolsts (ivs r.ch) && (V.nolsts (ivs r.ats) && (V.nolsts (ivs r.nss) && true)))) = true
 rw [nolst_pv,nolst_ivs,nolst_ivs,nolst_ivs]; rfl
theorem nolst_body:∀ {rows:List Row} {b:Nat},(bodyCells b rows).all Cell.nolst = true
 | [],_ => rfl
 | r :: rs,b => by rw [bodyCells,List.all_append,nolst_row,nolst_body]; rfl
theorem nolst_tree {rows:List Row}:(tree rows).all Cell.nolst = true:=by
 show ((true && true) && (V.nolsts (refs rows.length) && (bodyCells 2 rows).all Cell.nolst)) = true
 rw [nolst_body,refs,nolst_refs]; rfl
section
variable {wf n k:Nat} {σ L L':St} {f:Addr} {args:List V} {v:V}
theorem inner_set (e:σ[k]? = some (.pack L)) (ha:V.norefs args = true) (h:Ok (R0 wf n f (.ref 0 :: args) [] L) v L') (hv:v.noref = true) (hl:L'.all Cell.nolst = true):Ok (innF (cx1 wf n) f (.ref k) args [] σ) v (σ.set k (.pack L')):=fun K X q => by
 unfold innF
 exact ⟨k,L,rfl,e,ha,rfl,h _ _ ⟨hv,hl,q⟩⟩
theorem set_same {c:Cell} (e:σ[k]? = some c):σ.set k c = σ:=by
 apply List.ext_getElem?
 intro i
 rw [List.getElem?_set]
 split
 ·rename_i h; subst h
  rw [e,if_pos (lt_of_get e)]
 ·rfl
theorem inner_same (e:σ[k]? = some (.pack L)) (ha:V.norefs args = true) (h:Ok (R0 wf n f (.ref 0 :: args) [] L) v L) (hv:v.noref = true) (hl:L.all Cell.nolst = true):Ok (innF (cx1 wf n) f (.ref k) args [] σ) v σ:=by
 have:=inner_set e ha h hv hl
 rwa [set_same e] at this
end
noncomputable def IsT (σ:St) (k:Nat) (rows:List Row):Prop:=σ[k]? = some (.pack (tree rows)) /\ rows.length <= big
section
variable {wf n k i:Nat} {σ:St} {rows:List Row} {r:Row}
theorem psel {m:Str} {f:Addr} {b:Option BM} (t:IsT σ k rows) (h:(m == ("rows":Str)) = false):selF m [(536,f)] b (.ref k) σ = some (.pk f):=selF_pack t.1 tree_0 (by simp only [List.lookup,h]) rfl
theorem pkind (t:IsT σ k rows) (h:rows[i]? = some r):Ok (innF (cx1 wf (n + 2)) 456 (.ref k) [iv i] [] σ) (.str r.kind) σ:=inner_same t.1 rfl (kind_at h t.2) rfl nolst_tree
theorem pname (t:IsT σ k rows) (h:rows[i]? = some r):Ok (innF (cx1 wf (n + 2)) 463 (.ref k) [iv i] [] σ) (.str r.name) σ:=inner_same t.1 rfl (name_at h t.2) rfl nolst_tree
theorem puri (t:IsT σ k rows) (h:rows[i]? = some r):Ok (innF (cx1 wf (n + 2)) 470 (.ref k) [iv i] [] σ) (.str r.uri) σ:=inner_same t.1 rfl (uri_at h t.2) rfl nolst_tree
theorem ploc (t:IsT σ k rows) (h:rows[i]? = some r):Ok (innF (cx1 wf (n + 2)) 477 (.ref k) [iv i] [] σ) (.str r.loc) σ:=inner_same t.1 rfl (loc_at h t.2) rfl nolst_tree
theorem pval (t:IsT σ k rows) (h:rows[i]? = some r):Ok (innF (cx1 wf (n + 2)) 484 (.ref k) [iv i] [] σ) (.str r.val) σ:=inner_same t.1 rfl (val_at h t.2) rfl nolst_tree
theorem ppar (t:IsT σ k rows) (h:rows[i]? = some r):Ok (innF (cx1 wf (n + 2)) 491 (.ref k) [iv i] [] σ) (pv r.par) σ:=inner_same t.1 rfl (par_at h t.2) (by cases r.par <;> rfl) nolst_tree
theorem pch (t:IsT σ k rows) (h:rows[i]? = some r) (hc:r.ch.length <= big):Ok (innF (cx1 wf (n + 2)) 498 (.ref k) [iv i] [] σ) (.lst (ivs r.ch)) σ:=inner_same t.1 rfl (ch_at h t.2 hc) (noref_ivs _) nolst_tree
theorem pats (t:IsT σ k rows) (h:rows[i]? = some r) (hc:r.ats.length <= big):Ok (innF (cx1 wf (n + 2)) 505 (.ref k) [iv i] [] σ) (.lst (ivs r.ats)) σ:=inner_same t.1 rfl (ats_at h t.2 hc) (noref_ivs _) nolst_tree
theorem pnss (t:IsT σ k rows) (h:rows[i]? = some r) (hc:r.nss.length <= big):Ok (innF (cx1 wf (n + 2)) 512 (.ref k) [iv i] [] σ) (.lst (ivs r.nss)) σ:=inner_same t.1 rfl (nss_at h t.2 hc) (noref_ivs _) nolst_tree
theorem proot (t:IsT σ k rows) (hb:rows.length < big):Ok (innF (cx1 wf (n + 3)) 386 (.ref k) [] [] σ) (iv rows.length) (σ.set k (.pack (tree (rows ++ [⟨"root",T [],T [],T [],T [],none,[],[],[]⟩])))):=inner_set t.1 rfl (new_root hb) rfl nolst_tree
theorem pelement {b c d:Str} (t:IsT σ k rows) (h:rows[i]? = some r) (hk:r.kind = "root" \/ r.kind = "element") (hb:rows.length < big) (hc:r.ch.length < big) :
  Ok (innF (cx1 wf (n + 4)) 400 (.ref k) [iv i,.str b,.str c,.str d] [] σ) (iv rows.length) (σ.set k (.pack (tree (kid rows i r ⟨"element",b,c,d,T [],some i,[],[],[]⟩)))):=inner_set t.1 rfl (add_element h hk hb hc) rfl nolst_tree
theorem ptext {e:Str} (t:IsT σ k rows) (h:rows[i]? = some r) (hk:r.kind = "root" \/ r.kind = "element") (hb:rows.length < big) (hc:r.ch.length < big) :
  Ok (innF (cx1 wf (n + 4)) 407 (.ref k) [iv i,.str e] [] σ) (iv rows.length) (σ.set k (.pack (tree (kid rows i r ⟨"text",T [],T [],T [],e,some i,[],[],[]⟩)))):=inner_set t.1 rfl (add_text h hk hb hc) rfl nolst_tree
theorem pcomment {e:Str} (t:IsT σ k rows) (h:rows[i]? = some r) (hk:r.kind = "root" \/ r.kind = "element") (hb:rows.length < big) (hc:r.ch.length < big) :
  Ok (innF (cx1 wf (n + 4)) 414 (.ref k) [iv i,.str e] [] σ) (iv rows.length) (σ.set k (.pack (tree (kid rows i r ⟨"comment",T [],T [],T [],e,some i,[],[],[]⟩)))):=inner_set t.1 rfl (add_comment h hk hb hc) rfl nolst_tree
theorem pinstr {x e:Str} (t:IsT σ k rows) (h:rows[i]? = some r) (hk:r.kind = "root" \/ r.kind = "element") (hb:rows.length < big) (hc:r.ch.length < big) :
  Ok (innF (cx1 wf (n + 4)) 421 (.ref k) [iv i,.str x,.str e] [] σ) (iv rows.length) (σ.set k (.pack (tree (kid rows i r ⟨"instruction",x,T [],x,e,some i,[],[],[]⟩)))):=inner_set t.1 rfl (add_instruction h hk hb hc) rfl nolst_tree
theorem pattr_new {nm u l v:Str} (t:IsT σ k rows) (h:rows[i]? = some r) (hk:r.kind = "element") (hb:rows.length < big) (hc:r.ats.length < big) (hn:∀ j ∈ r.ats,∃ q,rows[j]? = some q /\ ¬ (q.uri = u /\ q.loc = l)) :
  Ok (innF (cx1 wf (n + 3)) 435 (.ref k) [iv i,.str nm,.str u,.str l,.str v] [] σ) (iv rows.length) (σ.set k (.pack (tree (atted rows i r ⟨"attribute",nm,u,l,v,some i,[],[],[]⟩)))):=inner_set t.1 rfl (set_attr_new h hk hb hc hn) rfl nolst_tree
theorem pattr_old {nm u l v:Str} {j:Nat} {q:Row} {pre post:List Nat} (t:IsT σ k rows) (h:rows[i]? = some r) (hk:r.kind = "element") (hb:rows.length < big) (e:r.ats = pre ++ j :: post) (hq:rows[j]? = some q) (hm:q.uri = u /\ q.loc = l)
  (hn:∀ j ∈ pre,∃ q,rows[j]? = some q /\ ¬ (q.uri = u /\ q.loc = l)) :
  Ok (innF (cx1 wf (n + 3)) 435 (.ref k) [iv i,.str nm,.str u,.str l,.str v] [] σ) (iv j) (σ.set k (.pack (tree (rows.set j { q with name:=nm,val:=v })))):=inner_set t.1 rfl (set_attr_old h hk hb e hq hm hn) rfl nolst_tree
theorem pns_new {p u:Str} (t:IsT σ k rows) (h:rows[i]? = some r) (hk:r.kind = "element") (hb:rows.length < big) (hc:r.nss.length < big) (hn:∀ j ∈ r.nss,∃ q,rows[j]? = some q /\ q.name ≠ p) :
  Ok (innF (cx1 wf (n + 3)) 442 (.ref k) [iv i,.str p,.str u] [] σ) (iv rows.length) (σ.set k (.pack (tree (nssed rows i r ⟨"namespace",p,T [],p,u,some i,[],[],[]⟩)))):=inner_set t.1 rfl (add_ns_new h hk hb hc hn) rfl nolst_tree
theorem tree_init {wf n:Nat}:Ok (R0 wf (n + 1) 365 [.ref 0] [] [.inst 536 []]) .none (tree []) :=
 ok_r0 rfl rfl fun P kk => elo_ok (setattr_ref (c:=536) (k:=0) (fs:=[]) rfl (by decide) (by decide)) kk
theorem tree_made {wf n:Nat} {σ:St}:Ok (clsF (cx1 wf (n + 1)) 536 365 [] σ) (.ref σ.length) (σ ++ [.pack (tree [])]):=fun K X q => by
 unfold clsF
 exact ⟨rfl,tree_init _ _ ⟨rfl,nolst_tree,rfl,q⟩⟩
end
theorem sne {a b:Str} (h:(a == b) = false):a ≠ b:=beq_eq_false_iff_ne.mp h
inductive All2 {α β:Type} (P:α -> β -> Prop):List α -> List β -> Prop
 | nil:All2 P [] []
 | cons {a:α} {b:β} {l:List α} {m:List β} (h:P a b) (r:All2 P l m):All2 P (a :: l) (b :: m)
section
variable {α β:Type} {P Q:α -> β -> Prop}
theorem All2.mono (h:∀ a b,P a b -> Q a b) {l:List α} {m:List β} (x:All2 P l m):All2 Q l m:=by
 induction x with
 | nil => exact .nil
 | cons a r ih => exact .cons (h _ _ a) ih
theorem All2.len {l:List α} {m:List β} (x:All2 P l m):l.length = m.length:=by
 induction x with
 | nil => rfl
 | cons a r ih => exact congrArg (· + 1) ih
theorem All2.app {l2:List α} {m2:List β} (h2:All2 P l2 m2) {l:List α} {m:List β} (x:All2 P l m):All2 P (l ++ l2) (m ++ m2):=by
 induction x with
 | nil => exact h2
 | cons a r ih => exact .cons a ih
theorem All2.snoc {a:α} {b:β} {l:List α} {m:List β} (r:All2 P l m) (h:P a b):All2 P (l ++ [a]) (m ++ [b]):=All2.app (.cons h .nil) r
theorem All2.left {l:List α} {m:List β} (x:All2 P l m):∀ a ∈ l,∃ b ∈ m,P a b:=by
 induction x with
 | nil => exact fun a h => nomatch h
 | cons h r ih =>
  intro a q
  rcases List.mem_cons.mp q with rfl | q
  ·exact ⟨_,.head _,h⟩
  ·obtain ⟨b,x,y⟩:=ih a q; exact ⟨b,.tail _ x,y⟩
end
noncomputable abbrev Tx:=List Nat
inductive Leaf where
 | tx (v:Tx) | cm (v:Tx) | pi (t d:Tx)
structure Att where
 nm:Tx
 uri:Tx
 loc:Tx
 val:Tx
structure Head where
 nm:Tx
 uri:Tx
 loc:Tx
 ns:List (Tx × Tx)
 ats:List Att
inductive Fo where
 | nil
 | lf (id:Nat) (k:Leaf) (rest:Fo)
 | el (id:Nat) (h:Head) (ch rest:Fo)
noncomputable def ids:Fo -> List Nat
 | .nil => []
 | .lf i _ r => i :: ids r
 | .el i _ _ r => i :: ids r
noncomputable def Fo.app:Fo -> Fo -> Fo
 | .nil,g => g
 | .lf i k r,g => .lf i k (r.app g)
 | .el i h c r,g => .el i h c (r.app g)
noncomputable def cnt:Fo -> Nat
 | .nil => 0
 | .lf _ _ r => cnt r + 1
 | .el _ _ c r => cnt c + cnt r + 1
theorem ids_app {g:Fo}:∀ {f:Fo},ids (f.app g) = ids f ++ ids g
 | .nil => rfl
 | .lf _ _ r => congrArg (_ :: ·) ids_app
 | .el _ _ _ r => congrArg (_ :: ·) ids_app
theorem cnt_app {g:Fo}:∀ {f:Fo},cnt (f.app g) = cnt f + cnt g
 | .nil => (Nat.zero_add _).symm
 | .lf _ _ r => by rw [Fo.app,cnt,cnt,cnt_app,Nat.add_right_comm]
 | .el _ _ c r => by show cnt c + cnt (r.app g) + 1 = cnt c + cnt r + 1 + cnt g; rw [cnt_app,<- Nat.add_assoc,Nat.add_right_comm]
theorem ids_cnt:∀ {f:Fo},(ids f).length <= cnt f
 | .nil => Nat.le_refl _
 | .lf _ _ r => Nat.succ_le_succ ids_cnt
 | .el _ _ _ r => Nat.succ_le_succ (Nat.le_trans ids_cnt (Nat.le_add_left _ _))
noncomputable def leafRow:Leaf -> Option Nat -> Row
 | .tx v,p => ⟨"text",T [],T [],T [],T v,p,[],[],[]⟩
 | .cm v,p => ⟨"comment",T [],T [],T [],T v,p,[],[],[]⟩
 | .pi t d,p => ⟨"instruction",T t,T [],T t,T d,p,[],[],[]⟩
noncomputable def LeafR (r:Row) (k:Leaf):Prop:=r = leafRow k r.par
noncomputable def NsP (rows:List Row) (lo:Nat) (j:Nat) (x:Tx × Tx):Prop:=lo <= j /\ ∃ q,rows[j]? = some q /\ q.kind = "namespace" /\ q.name = T x.1 /\ q.val = T x.2
noncomputable def AtP (rows:List Row) (lo:Nat) (j:Nat) (a:Att):Prop:=lo <= j /\ ∃ q,rows[j]? = some q /\ q.kind = "attribute" /\ q.name = T a.nm /\ q.uri = T a.uri /\ q.loc = T a.loc /\ q.val = T a.val
noncomputable abbrev NsRy (rows:List Row) (lo:Nat):List Nat -> List (Tx × Tx) -> Prop:=All2 (NsP rows lo)
noncomputable abbrev AtRy (rows:List Row) (lo:Nat):List Nat -> List Att -> Prop:=All2 (AtP rows lo)
structure HeadR (rows:List Row) (lo:Nat) (r:Row) (h:Head) (ch:List Nat):Prop where
 kind:r.kind = "element"
 name:r.name = T h.nm
 uri:r.uri = T h.uri
 loc:r.loc = T h.loc
 val:r.val = T []
 ch:r.ch = ch
 nss:NsRy rows lo r.nss h.ns
 ats:AtRy rows lo r.ats h.ats
noncomputable def Rep (rows:List Row) (lo:Nat):Fo -> Prop
 | .nil => True
 | .lf i k rest => (lo <= i /\ ∃ r,rows[i]? = some r /\ LeafR r k) /\ Rep rows lo rest
 | .el i h ch rest => (lo <= i /\ ∃ r,rows[i]? = some r /\ HeadR rows lo r h (ids ch)) /\ Rep rows lo ch /\ Rep rows lo rest
noncomputable def Keep (lo:Nat) (rows rows':List Row):Prop:=∀ i r,lo <= i -> rows[i]? = some r -> rows'[i]? = some r
noncomputable def Like (r r':Row):Prop:=r'.kind = r.kind /\ r'.name = r.name /\ r'.uri = r.uri /\ r'.loc = r.loc /\ r'.val = r.val
noncomputable def KeepL (lo:Nat) (rows rows':List Row):Prop:=∀ i r,lo <= i -> rows[i]? = some r -> ∃ r',rows'[i]? = some r' /\ Like r r'
section
variable {rows rows':List Row} {lo lo':Nat}
theorem NsRy.monoL (k:KeepL lo rows rows') {js ns} (h:NsRy rows lo js ns):NsRy rows' lo js ns:=All2.mono (fun _ _ h => by
 obtain ⟨l,q,e,h0,h1,h2⟩:=h
 obtain ⟨q',e',x0,x1,_,_,x4⟩:=k _ _ l e
 exact ⟨l,q',e',x0.trans h0,x1.trans h1,x4.trans h2⟩) h
theorem AtRy.monoL (k:KeepL lo rows rows') {js as} (h:AtRy rows lo js as):AtRy rows' lo js as:=All2.mono (fun _ _ h => by
 obtain ⟨l,q,e,h0,h1,h2,h3,h4⟩:=h
 obtain ⟨q',e',x0,x1,x2,x3,x4⟩:=k _ _ l e
 exact ⟨l,q',e',x0.trans h0,x1.trans h1,x2.trans h2,x3.trans h3,x4.trans h4⟩) h
theorem Keep.l (k:Keep lo rows rows'):KeepL lo rows rows':=fun i r l e => ⟨r,k i r l e,rfl,rfl,rfl,rfl,rfl⟩
theorem HeadR.monoL (k:KeepL lo rows rows') {r:Row} {h:Head} {c:List Nat} (x:HeadR rows lo r h c):HeadR rows' lo r h c:=⟨x.1,x.2,x.3,x.4,x.5,x.6,NsRy.monoL k x.7,AtRy.monoL k x.8⟩
theorem HeadR.weak (k:lo' <= lo) {r:Row} {h:Head} {c:List Nat} (x:HeadR rows lo r h c):HeadR rows lo' r h c:=⟨x.1,x.2,x.3,x.4,x.5,x.6,x.7.mono fun _ _ h => ⟨Nat.le_trans k h.1,h.2⟩,x.8.mono fun _ _ h => ⟨Nat.le_trans k h.1,h.2⟩⟩
theorem Rep.mono (k:Keep lo rows rows') {f:Fo} (x:Rep rows lo f):Rep rows' lo f:=by
 induction f with
 | nil => trivial
 | lf i a b ih => obtain ⟨⟨l,r,e,h⟩,y⟩:=x; exact ⟨⟨l,r,k _ _ l e,h⟩,ih y⟩
 | el i a b c ih ih2 => obtain ⟨⟨l,r,e,h⟩,y,z⟩:=x; exact ⟨⟨l,r,k _ _ l e,h.monoL k.l⟩,ih y,ih2 z⟩
theorem Rep.weak (k:lo' <= lo) {f:Fo} (x:Rep rows lo f):Rep rows lo' f:=by
 induction f with
 | nil => trivial
 | lf i a b ih => exact ⟨⟨Nat.le_trans k x.1.1,x.1.2⟩,ih x.2⟩
 | el i a b c ih ih2 => obtain ⟨⟨l,r,e,h⟩,y,z⟩:=x; exact ⟨⟨Nat.le_trans k l,r,e,h.weak k⟩,ih y,ih2 z⟩
theorem Rep.app {g:Fo} (hg:Rep rows lo g) {f:Fo} (x:Rep rows lo f):Rep rows lo (f.app g):=by
 induction f with
 | nil => exact hg
 | lf i a b ih => exact ⟨x.1,ih x.2⟩
 | el i a b c ih ih2 => exact ⟨x.1,x.2.1,ih2 x.2.2⟩
theorem Rep.lt {f:Fo} (x:Rep rows lo f):∀ i ∈ ids f,i < rows.length:=by
 induction f with
 | nil => exact fun _ h => nomatch h
 | lf i a b ih => exact fun j h => (List.mem_cons.mp h).elim (fun q => by obtain ⟨_,_,e,_⟩:=x.1; rw [q]; exact lt_of_get e) (ih x.2 j)
 | el i a b c ih ih2 => exact fun j h => (List.mem_cons.mp h).elim (fun q => by obtain ⟨_,_,e,_⟩:=x.1; rw [q]; exact lt_of_get e) (ih2 x.2.2 j)
end
noncomputable def ins (p:Nat) (g:Fo):Fo -> Fo
 | .nil => .nil
 | .lf i k r => .lf i k (ins p g r)
 | .el i h c r => .el i h (if i = p then (ins p g c).app g else ins p g c) (ins p g r)
theorem ids_ins {p:Nat} {g:Fo}:∀ {f:Fo},ids (ins p g f) = ids f
 | .nil => rfl
 | .lf _ _ r => congrArg (_ :: ·) ids_ins
 | .el _ _ _ r => congrArg (_ :: ·) ids_ins
theorem cnt_ins {p:Nat} {g:Fo} (hg:cnt g <= 1) {f:Fo}:cnt (ins p g f) <= 2 * cnt f:=by
 induction f with
 | nil => exact Nat.le_refl _
 | lf i a b ih => show cnt (ins p g b) + 1 <= 2 * (cnt b + 1); lia
 | el i a b c ih ih2 =>
  show cnt (if i = p then _ else _) + cnt (ins p g c) + 1 <= 2 * (cnt b + cnt c + 1)
  have:cnt (if i = p then (ins p g b).app g else ins p g b) <= 2 * cnt b + 1:=by
   split
   ·rw [cnt_app]; exact Nat.add_le_add ih hg
   ·exact Nat.le_succ_of_le ih
  lia
theorem leaf_el {k:Leaf} {p:Option Nat}:(leafRow k p).kind ≠ "element":=by cases k <;> exact sne (by kernel_rfl)
theorem Rep.ins {rows rows':List Row} {lo p:Nat} {g:Fo} {r:Row} (hr:rows[p]? = some r) (hr':rows'[p]? = some { r with ch:=r.ch ++ ids g }) (hk:∀ i q,i ≠ p -> rows[i]? = some q -> rows'[i]? = some q)
  (hp:r.kind = "element") (hg:Rep rows' lo g) {f:Fo} (x:Rep rows lo f):Rep rows' lo (ins p g f):=by
 have kl:KeepL lo rows rows':=fun j w _ e => by
  by_cases c:j = p
  ·subst c
   rw [hr] at e; cases e
   exact ⟨_,hr',rfl,rfl,rfl,rfl,rfl⟩
  ·exact ⟨w,hk j w c e,rfl,rfl,rfl,rfl,rfl⟩
 induction f with
 | nil => trivial
 | lf i k b ih =>
  obtain ⟨⟨l,q,e,h⟩,y⟩:=x
  refine ⟨⟨l,q,hk i q (fun c => ?_) e,h⟩,ih y⟩
  rw [c,hr] at e; cases e; rw [h] at hp; exact leaf_el hp
 | el i h ch rest ih ih2 =>
  obtain ⟨⟨l,q,e,x⟩,y,z⟩:=x
  have x:=x.monoL kl
  have y:=ih y
  have z:=ih2 z
  unfold Mine.ins
  by_cases c:i = p
  ·subst c
   rw [hr] at e; cases e
   rw [if_pos rfl]
   exact ⟨⟨l,_,hr',x.1,x.2,x.3,x.4,x.5,by rw [ids_app,ids_ins,<- x.6],x.7,x.8⟩,Rep.app hg y,z⟩
  ·rw [if_neg c]
   exact ⟨⟨l,_,hk i q c e,x.1,x.2,x.3,x.4,x.5,by rw [ids_ins]; exact x.6,x.7,x.8⟩,y,z⟩
section
open Builtin Builtin.Str
theorem T_one {c:Nat}:(⟨#[c]⟩:Str) = T [c]:=rfl
theorem at_iff {x y:List Nat} {i:Nat}:StrLaws.At (T x) (T y) x.length i ↔ i + y.length <= x.length /\ (x.drop i).take y.length = y:=by
 unfold StrLaws.At
 rw [StrLaws.subAt_eq]
 simp
theorem at_append {a y b:List Nat}:StrLaws.At (T (a ++ y ++ b)) (T y) (a ++ y ++ b).length a.length:=by
 rw [at_iff]
 refine ⟨by simp,?_⟩
 rw [List.append_assoc,List.drop_left]
 simp
theorem sIn_iff {x y:List Nat}:sIn (T y) (T x) = true ↔ ∃ a b,x = a ++ y ++ b:=by
 unfold sIn
 rw [StrLaws.found_iff]
 constructor
 ·rintro ⟨i,h1,h2⟩
  have h:=at_iff.mp (show StrLaws.At (T x) (T y) x.length i from ⟨by simpa using h1,h2⟩)
  refine ⟨x.take i,x.drop (i + y.length),?_⟩
  have e1:x = x.take i ++ x.drop i:=(List.take_append_drop i x).symm
  have e2:x.drop i = y ++ x.drop (i + y.length):=by
   conv => lhs; rw [<- List.take_append_drop y.length (x.drop i)]
   rw [h.2,List.drop_drop]
  rw [List.append_assoc,<- e2]; exact e1
 ·rintro ⟨a,b,rfl⟩
  have h:=at_append (a:=a) (y:=y) (b:=b)
  exact ⟨a.length,by simpa using h.1,h.2⟩
theorem sIn_one {x:List Nat} {c:Nat}:sIn (T [c]) (T x) = decide (c ∈ x):=StrLaws.found_one (T x) c
theorem sIdx_first {a y b:List Nat} {i:Nat} (hi:i <= a.length) (h:∀ k,i <= k -> k < a.length -> ((a ++ y ++ b).drop k).take y.length ≠ y):sIdx (T (a ++ y ++ b)) (T y) i = some a.length:=by
 unfold sIdx
 rcases StrLaws.occ_head_from (T (a ++ y ++ b)) (T y) i 1 (Nat.le_refl _) with ⟨_,q⟩ | ⟨j,r,e,h1,h2,h3⟩
 ·exact absurd (by rw [T_length]; exact at_append) (q a.length hi)
 ·rw [e,List.head?_cons]
  congr 1
  rw [T_length] at h2 h3
  rcases Nat.lt_trichotomy j a.length with l | l | l
  ·exact absurd (at_iff.mp h2).2 (h j h1 l)
  ·exact l
  ·exact absurd at_append (h3 a.length hi l)
theorem drop_one_ne {a b:List Nat} {c k:Nat} (hk:k < a.length) (h:a[k]? ≠ some c):((a ++ [c] ++ b).drop k).take 1 ≠ [c]:=by
 intro q
 have e:((a ++ [c] ++ b).drop k)[0]? = some c:=by
  have:(((a ++ [c] ++ b).drop k).take 1)[0]? = some c:=by rw [q]; rfl
  rwa [List.getElem?_take_of_lt (by decide)] at this
 rw [List.getElem?_drop,List.append_assoc,List.getElem?_append_left (by omega)] at e
 exact h e
theorem sIdx_one {a b:List Nat} {c i:Nat} (hi:i <= a.length) (h:c ∉ a.drop i):sIdx (T (a ++ c :: b)) (T [c]) i = some a.length:=by
 have:=sIdx_first (a:=a) (y:=[c]) (b:=b) hi fun k h1 h2 => drop_one_ne h2 fun q => h (List.mem_of_getElem? (i:=k - i) (by rw [List.getElem?_drop]; rw [show i + (k - i) = k by lia]; exact q))
 simpa using this
noncomputable def clip (v:Option Int) (d n:Nat):Nat:=match v with
 | none => d
 | some i => (max 0 (min (if i < 0 then i + n else i) (n:Int))).toNat
theorem slice_T (x:List Nat) (l u:Option Int):Txt.slice (T x) l u = T ((x.take (clip u x.length x.length)).drop (clip l 0 x.length)):=by
 have hu:clip u x.length x.length <= x.length:=by unfold clip; split <;> lia
 have hl:clip l 0 x.length <= x.length:=by unfold clip; split <;> lia
 have e:strSliceIndices l u 1 x.length = strSliceIndices (some ((clip l 0 x.length:Nat):Int)) (some ((clip u x.length x.length:Nat):Int)) 1 x.length:=by
  have c1:∀ k:Nat,k <= x.length -> max 0 (min (if (k:Int) < 0 then (k:Int) + x.length else k) (x.length:Int)) = k:=fun k hk => by
   rw [if_neg (by lia)]; lia
  have c2:∀ i:Int,((max 0 (min (if i < 0 then i + (x.length:Int) else i) (x.length:Int))).toNat:Int) = max 0 (min (if i < 0 then i + (x.length:Int) else i) (x.length:Int)):=fun i => by lia
  unfold strSliceIndices
  simp only [show ((1:Int) > 0) = True by simp,if_true]
  rw [c1 _ hl,c1 _ hu]
  cases l <;> cases u <;> simp only [clip,c2] <;> rfl
 show (if ((1:Int) == 1 && (strSliceIndices l u 1 (T x).length).length == (T x).length) = true then (T x) else ⟨((strSliceIndices l u 1 (T x).length).filterMap ((T x).cps[·]?)).toArray⟩) = _
 rw [T_length,e]
 by_cases hab:clip l 0 x.length <= clip u x.length x.length
 ·have:=StrLaws.sliceText_nat (T x) hab (by simpa using hu)
  unfold StrLaws.sliceText at this
  rw [T_length] at this
  rw [this]
  show T _ = T _
  rw [T_inj,T_toList,List.drop_take]
 ·have z:strSliceIndices (some ((clip l 0 x.length:Nat):Int)) (some ((clip u x.length x.length:Nat):Int)) 1 x.length = []:=by
   have c1:∀ k:Nat,k <= x.length -> max 0 (min (if (k:Int) < 0 then (k:Int) + x.length else k) (x.length:Int)) = k:=fun k hk => by
    rw [if_neg (by lia)]; lia
   unfold strSliceIndices sliceRange
   simp only [show ((1:Int) > 0) = True by simp,if_true]
   rw [c1 _ hl,c1 _ hu,if_neg (by lia)]
   simp
  rw [z]
  rw [if_neg (by simp; lia)]
  have:(x.take (clip u x.length x.length)).drop (clip l 0 x.length) = []:=List.drop_eq_nil_of_le (by rw [List.length_take]; lia)
  rw [this]; rfl
theorem clip_nat {a d n:Nat}:clip (some (a:Int)) d n = min a n:=by
 unfold clip; dsimp only; rw [if_neg (by omega)]; omega
theorem slice_nn {x:List Nat} {a b:Nat}:Txt.slice (T x) (some (a:Int)) (some (b:Int)) = T ((x.drop a).take (b - a)):=by
 rw [slice_T,clip_nat,clip_nat,T_inj,<- List.drop_take]
 apply List.ext_getElem?
 intro i
 rw [List.getElem?_drop,List.getElem?_take,List.getElem?_drop,List.getElem?_take]
 by_cases h1:a <= x.length
 ·rw [Nat.min_eq_left h1]
  by_cases h2:b <= x.length
  ·rw [Nat.min_eq_left h2]
  ·have e:x[a + i]? = if a + i < x.length then x[a + i]? else none:=by
    split
    ·rfl
    ·rw [List.getElem?_eq_none_iff]; lia
   split <;> split <;> first | rfl | (rw [e]; split <;> first | rfl | lia)
 ·have e1:x[min a x.length + i]? = none:=by rw [List.getElem?_eq_none_iff]; lia
  have e2:x[a + i]? = none:=by rw [List.getElem?_eq_none_iff]; lia
  rw [e1,e2]; split <;> split <;> rfl
theorem slice_n {x:List Nat} {a:Nat}:Txt.slice (T x) (some (a:Int)) none = T (x.drop a):=by
 rw [slice_T,clip_nat,T_inj]
 show (x.take x.length).drop _ = _
 rw [List.take_length]
 rcases Nat.le_total a x.length with h | h
 ·rw [Nat.min_eq_left h]
 ·rw [Nat.min_eq_right h,List.drop_eq_nil_of_le (Nat.le_refl _),List.drop_eq_nil_of_le h]
theorem slice_to {x:List Nat} {b:Nat}:Txt.slice (T x) none (some (b:Int)) = T (x.take b):=by
 rw [slice_T,clip_nat,T_inj]
 show (x.take _).drop 0 = _
 rw [List.drop_zero]
 rcases Nat.le_total b x.length with h | h
 ·rw [Nat.min_eq_left h]
 ·rw [Nat.min_eq_right h,List.take_length,List.take_of_length_le h]
noncomputable def splitL (c:Nat):List Nat -> List (List Nat)
 | [] => [[]]
 | x :: r => if x = c then [] :: splitL c r else match splitL c r with
  | p :: ps => (x :: p) :: ps
  | [] => [[x]]
noncomputable def joinL (c:Nat):List (List Nat) -> List Nat
 | [] => []
 | [p] => p
 | p :: q :: r => p ++ c :: joinL c (q :: r)
theorem splitL_ne (c:Nat):∀ l,splitL c l ≠ []
 | [] => by simp [splitL]
 | x :: r => by
  unfold splitL
  split
  ·simp
  ·split <;> simp
theorem splitL_free {c:Nat}:∀ {l:List Nat},c ∉ l -> splitL c l = [l]
 | [],_ => rfl
 | x :: r,h => by
  simp only [List.mem_cons,not_or] at h
  unfold splitL
  rw [if_neg (Ne.symm h.1),splitL_free h.2]
theorem splitL_cons {c:Nat}:∀ {a b:List Nat},c ∉ a -> splitL c (a ++ c :: b) = a :: splitL c b
 | [],b,_ => by simp [splitL]
 | x :: r,b,h => by
  simp only [List.mem_cons,not_or] at h
  rw [List.cons_append,splitL,if_neg (Ne.symm h.1),splitL_cons h.2]
theorem splitL_joinL {c:Nat}:∀ {ps:List (List Nat)},ps ≠ [] -> (∀ p ∈ ps,c ∉ p) -> splitL c (joinL c ps) = ps
 | [],h,_ => absurd rfl h
 | [p],_,h => splitL_free (h p (.head _))
 | p :: q :: r,_,h => by
  show splitL c (p ++ c :: joinL c (q :: r)) = _
  rw [splitL_cons (h p (.head _)),splitL_joinL (by simp) fun x hx => h x (.tail _ hx)]
theorem join_T (c:Nat):∀ (ps:List Str),Str.join (T [c]) ps = T (joinL c (ps.map fun p => p.cps.toList))
 | [] => rfl
 | [p] => T_of p
 | p :: q :: r => by
  show p ++ T [c] ++ Str.join (T [c]) (q :: r) = _
  rw [join_T c (q :: r)]
  conv => lhs; rw [T_of p]
  rw [T_append,T_append,T_inj]
  simp [joinL]
theorem split_T (c:Nat) (x:List Nat):Txt.split (T x) (T [c]) = (splitL c x).map T:=by
 have h1:=StrLaws.join_split (T x) (T [c])
 have h2:=StrLaws.split_free (T x) c
 have h3:Txt.split (T x) (T [c]) ≠ []:=fun q => by have:=split_pos (T x) (T [c]); rw [q] at this; simp at this
 change ∀ p ∈ Txt.split (T x) (T [c]),c ∉ p.cps.toList at h2
 generalize Txt.split (T x) (T [c]) = ps at h1 h2 h3
 rw [join_T,T_inj] at h1
 rw [<- h1,splitL_joinL (by simpa using h3) (by simpa using h2),List.map_map]
 conv => lhs; rw [<- List.map_id ps]
 exact List.map_congr_left fun p _ => T_of p
theorem joinL_splitL (a b:Nat):∀ x:List Nat,joinL b (splitL a x) = x.map fun c => if c = a then b else c
 | [] => rfl
 | x :: r => by
  have ih:=joinL_splitL a b r
  unfold splitL
  split
  ·rename_i h
   subst h
   cases z:splitL x r with
   | nil => exact absurd z (splitL_ne _ _)
   | cons p ps => rw [z] at ih; simp [joinL,ih]
  ·rename_i h
   cases z:splitL a r with
   | nil => exact absurd z (splitL_ne _ _)
   | cons p ps =>
    rw [z] at ih
    rw [List.map_cons,if_neg h,<- ih]
    cases ps <;> simp [joinL]
theorem replace_T (a b:Nat) (x:List Nat):Txt.replace (T x) (T [a]) (T [b]) = T (x.map fun c => if c = a then b else c):=by
 have:=StrLaws.replace_one (T x) (T [b]) a
 rw [show (⟨#[a]⟩:Str) = T [a] from rfl,split_T,join_T,List.map_map] at this
 rw [this,<- joinL_splitL]
 congr 2
 conv => rhs; rw [<- List.map_id (splitL a x)]
 exact List.map_congr_left fun p _ => rfl
theorem joinE (ps:List (List Nat)):Txt.join (T []) (ps.map T) = T ps.flatten:=by
 show glued _ _ = _
 rw [StrLaws.glued_eq_join]
 induction ps with
 | nil => rfl
 | cons p r ih =>
  cases r with
  | nil => simp [Str.join]
  | cons q r =>
   show T p ++ T [] ++ Str.join (T []) ((q :: r).map T) = _
   rw [ih]; simp
theorem joinC (c:Nat) (ps:List (List Nat)):Txt.join (T [c]) (ps.map T) = T (joinL c ps):=by
 show glued _ _ = _
 rw [StrLaws.glued_eq_join,join_T,List.map_map]
 congr 2
 conv => rhs; rw [<- List.map_id ps]
 exact List.map_congr_left fun p _ => rfl
theorem joinOk_T {sep:List Nat} {ps:List (List Nat)} (h:(ps.map (·.length)).sum + ps.length * sep.length <= sizeLine):JoinOk (T sep) (ps.map T) = true:=by
 unfold JoinOk tooLong
 rw [StrLaws.joinTotal,List.map_map]
 have:(fun s => s.length) ∘ T = fun l:List Nat => l.length:=by funext l; simp
 simp only [this,List.length_map,T_length]
 simp; omega
theorem strSub_T (x:List Nat) (i j:Nat):strSub (T x) i j = T ((x.drop i).take (j - i)):=by
 rw [T_of (strSub (T x) i j),StrLaws.strSub_toList]; rfl
theorem splitMax_one {c:Nat} {a b:List Nat} (h:c ∉ a) (hc:c < 256):Txt.splitMax (T (a ++ c :: b)) (T [c]) 1 = [T a,T b]:=by
 have h1:(decide ((T (a ++ c :: b)).length < (T [c]).length) || decide (strKind (T (a ++ c :: b)) < strKind (T [c]))) = false:=by
  have k:Str.strKind (T [c]) = 1:=by unfold Str.strKind; rw [if_pos]; simp [T,hc]
  rw [k,Bool.or_eq_false_iff,decide_eq_false_iff_not,decide_eq_false_iff_not]
  refine ⟨by simp,?_⟩
  unfold Str.strKind
  split <;> (try split) <;> lia
 have hi:sIdx (T (a ++ c :: b)) (T [c]) 0 = some a.length:=sIdx_one (Nat.zero_le _) (by simpa using h)
 have hl:=StrLaws.occ_length_le (T (a ++ c :: b)) (T [c]) 0 (T (a ++ c :: b)).length 1
 unfold sIdx at hi
 have ho:occurrences (T (a ++ c :: b)) (T [c]) 0 (T (a ++ c :: b)).length 1 = [a.length]:=by
  generalize occurrences (T (a ++ c :: b)) (T [c]) 0 (T (a ++ c :: b)).length 1 = o at hi hl
  match o,hi,hl with
  | [x],hi,_ => simpa using hi
  | x :: y :: r,_,hl => simp at hl
 have lim:limitOf (T (a ++ c :: b)) 1 = 1:=rfl
 unfold Txt.splitMax
 rw [h1,lim,ho]
 simp only [Bool.false_eq_true,if_false,List.isEmpty_cons]
 rw [StrLaws.partsBetween_eq]
 simp only [StrLaws.partsFrom,strSub_T,T_length]
 simp
 exact List.take_of_length_le (by lia)
end
theorem big_line:big <= sizeLine:=by decide
theorem strsOf_map (ps:List Str):strsOf (ps.map .str) = some ps:=by
 induction ps with
 | nil => rfl
 | cons p ps ih => show Option.map (p :: ·) (strsOf (ps.map .str)) = _; rw [ih]; rfl
theorem fits {x:Int} (h1:0 <= x) (h2:x < 2 ^ 63):Builtin.Range.rangeFitsLong x = true:=by
 unfold Builtin.Range.rangeFitsLong
 rw [decide_eq_true (Int.le_trans (by decide) h1),decide_eq_true h2]; rfl
theorem small_up {a b c:Int} (ha:0 <= a) (ha':a < 2 ^ 62) (hb':b < 2 ^ 62) (hb:0 <= b) (hc:0 < c) (hc':c < 3) (hs:0 <= Builtin.Range.rangeSize a b c) (hs':Builtin.Range.rangeSize a b c < 2 ^ 62):Builtin.Range.small a b c = true:=by
 have lt:∀ {x:Int},x < 2 ^ 62 -> x < 2 ^ 63:=fun h => Int.lt_trans h (by decide)
 unfold Builtin.Range.small
 rw [fits ha (lt ha'),fits hb (lt hb'),fits (x:=c) (by lia) (by lia),fits hs (lt hs'),if_pos hc,fits (by lia) (by lia)]; simp
section
variable {σ:St} {mk:Bool} {k:Nat}
theorem join_lst {ps:List Tx} (h:ps.flatten.length <= big):bmF mk .join (.str (T [])) [.lst (ps.map fun p => .str (T p))] σ = .ok (.str (T ps.flatten)) σ:=by
 have e:ps.map (fun p => V.str (T p)) = (ps.map T).map .str:=List.map_map.symm
 show oO (strsOf (ps.map fun p => V.str (T p))) _ = _
 refine oO_some (by rw [e]; exact strsOf_map _) ?_
 rw [joinE]
 refine if_pos (joinOk_T ?_)
 rw [<- List.length_flatten,List.length_nil,Nat.mul_zero]
 exact Nat.le_trans h big_line
theorem join_ref {ps:List Tx} (e:σ[k]? = some (.list (ps.map fun p => .str (T p)))) (h:ps.flatten.length <= big):bmF mk .join (.str (T [])) [.ref k] σ = .ok (.str (T ps.flatten)) σ :=
by
 show oO (getL σ (.ref k)) _ = _
 rw [getL_ref e]; exact join_lst (mk:=mk) h
theorem splitL_len {c:Nat} (x:Tx):(splitL c x).length <= x.length + 1:=by
 induction x with
 | nil => exact Nat.le_refl _
 | cons y r ih =>
  unfold splitL
  split
  ·exact Nat.succ_le_succ ih
  ·split
   ·rename_i e; rw [e] at ih; exact Nat.le_succ_of_le ih
   ·exact Nat.succ_le_succ (Nat.zero_le _)
theorem split_c {c:Nat} {x:Tx} (h:x.length < big):bmF false .split (.str (T x)) [.str (T [c])] σ = .ok (.lst ((splitL c x).map fun p => .str (T p))) σ:=by
 show (if (T [c]).length = 1 /\ (T x).length <= big then okL false ((Txt.split (T x) (T [c])).map .str) σ else .bad) = _
 rw [if_pos ⟨rfl,Nat.le_of_lt h⟩,split_T,List.map_map]
 exact okL_ok (by rw [List.length_map]; exact Nat.le_trans (splitL_len x) h)
theorem okL_small {l:List V} (h:l.length < 1000):okL false l σ = .ok (.lst l) σ:=okL_ok (small_big h)
theorem okL_smallr {l:List V} (h:l.length < 1000):okL true l σ = .ok (.ref σ.length) (σ ++ [.list l]):=okL_mk (small_big h)
theorem range_n {n:Nat} (h:n <= big):bfF mk .range [.int (n:Int)] σ = .ok (.rng 0 n 1) σ:=if_pos (Int.ofNat_le.mpr h)
theorem rsize1 {n:Nat}:Builtin.Range.rangeSize 0 n 1 = n:=by
 unfold Builtin.Range.rangeSize
 rw [if_pos (by decide)]
 split <;> lia
theorem rsize2 {a n:Nat}:Builtin.Range.rangeSize a n 2 = ((n + 1 - a) / 2:Nat):=by
 unfold Builtin.Range.rangeSize
 rw [if_pos (by decide)]
 split <;> lia
theorem b62 {n:Nat} (h:n <= big):(n:Int) < 2 ^ 62:=Int.ofNat_lt.mpr (Nat.lt_of_le_of_lt h big_lt)
theorem items_n {n:Nat} (h:n <= big):itemsOf σ (.rng 0 n 1) = some (ivs (List.range n)):=by
 have s:Builtin.Range.small 0 n 1 = true:=small_up (Int.le_refl _) (by decide) (b62 h) (Int.natCast_nonneg _) (by decide) (by decide) (by rw [rsize1]; exact Int.natCast_nonneg _) (by rw [rsize1]; exact b62 h)
 show (if Builtin.Range.small 0 n 1 = true then some ((List.range (Builtin.Range.rangeSize 0 n 1).toNat).map fun (i:Nat) => V.int (0 + i * 1)) else none) = _
 rw [if_pos s,rsize1,Int.toNat_natCast]
 exact congrArg some (List.map_congr_left fun i _ => congrArg V.int (by rw [Int.mul_one,Int.zero_add]))
theorem range_2 {a n:Nat} (h:n <= big):bfF mk .range [.int (a:Int),.int (n:Int),.int 2] σ = .ok (.rng a n 2) σ:=if_pos ⟨Int.natCast_nonneg _,Int.ofNat_le.mpr h,by decide,by decide⟩
theorem items_2 {a n:Nat} (h:n <= big) (ha:a <= 1):itemsOf σ (.rng a n 2) = some (ivs ((List.range ((n + 1 - a) / 2)).map fun i => a + 2 * i)):=by
 have hn:(n + 1 - a) / 2 <= big:=by omega
 have s:Builtin.Range.small a n 2 = true:=small_up (Int.natCast_nonneg _) (b62 (Nat.le_trans ha (by decide))) (b62 h) (Int.natCast_nonneg _) (by decide) (by decide) (by rw [rsize2]; exact Int.natCast_nonneg _) (by rw [rsize2]; exact b62 hn)
 show (if Builtin.Range.small a n 2 = true then some ((List.range (Builtin.Range.rangeSize a n 2).toNat).map fun (i:Nat) => V.int (a + i * 2)) else none) = _
 rw [if_pos s,rsize2,Int.toNat_natCast,ivs,List.map_map]
 exact congrArg some (List.map_congr_left fun i _ => congrArg V.int (by rw [Int.mul_comm]; rfl))
theorem set_set {c d:Cell}:(σ.set 0 c).set 0 d = σ.set 0 d:=List.set_set ..
noncomputable def At0 (σ:St):Prop:=∃ a b,σ[0]? = some (src a b) /\ Src a b
end
noncomputable def Drawn (σ σ':St):Prop:=At0 σ' /\ ∃ c,σ' = σ.set 0 c
theorem Drawn.trans {σ σ' σ'':St} (h:Drawn σ σ') (k:Drawn σ' σ''):Drawn σ σ'':=by
 obtain ⟨_,c,rfl⟩:=h
 obtain ⟨a,d,rfl⟩:=k
 exact ⟨a,d,set_set⟩
theorem Drawn.refl {σ:St} (h:At0 σ):Drawn σ σ:=by
 obtain ⟨a,b,e,s⟩:=h
 exact ⟨⟨a,b,e,s⟩,src a b,(set_same e).symm⟩
theorem Drawn.get {σ σ':St} (h:Drawn σ σ') {k:Nat} (hk:k ≠ 0):σ'[k]? = σ[k]?:=by
 obtain ⟨_,c,rfl⟩:=h
 exact set_get_ne hk
theorem Drawn.tree {σ σ':St} (h:Drawn σ σ') {k:Nat} {rows:List Row} (hk:k ≠ 0) (t:IsT σ k rows):IsT σ' k rows:=⟨(h.get hk).trans t.1,t.2⟩
section
variable {wf n:Nat} {σ:St} {K:V -> St -> Prop} {X:Addr -> St -> Prop}
theorem drawn_set {a b x y:Int} (e:σ[0]? = some (src a b)) (s:Src x y):Drawn σ (σ.set 0 (src x y)):=⟨⟨x,y,set_get e,s⟩,_,rfl⟩
theorem take_d {top:Int} (h:At0 σ) (ht:0 < top) (ht2:top < 1000) (k:∀ (d:Nat) σ',(d:Int) < top -> Drawn σ σ' -> K (.int d) σ'):R1 wf (n + 1) 554 [.ref 0,.int top] [] σ K X:=by
 obtain ⟨a,b,e,s⟩:=h
 refine take_ok e s ht ht2 fun d a' b' d0 d1 s' => ?_
 obtain ⟨d,rfl⟩:=Int.eq_ofNat_of_zero_le d0
 exact k d _ d1 (drawn_set e s')
theorem one_d {l:List V} (h:At0 σ) (h0:l ≠ []) (hl:l.length < 1000) (k:∀ v σ',v ∈ l -> Drawn σ σ' -> K v σ'):R1 wf (n + 2) 561 [.ref 0,.lst l] [] σ K X:=by
 obtain ⟨a,b,e,s⟩:=h
 exact one_lst e s h0 hl fun i v a' b' hv s' => k v _ (List.mem_of_getElem? hv) (drawn_set e s')
theorem one_r {l:List V} {j:Nat} (hk:j ≠ 0) (ek:σ[j]? = some (.list l)) (h:At0 σ) (h0:l ≠ []) (hl:l.length < 1000) (k:∀ v σ',v ∈ l -> Drawn σ σ' -> K v σ'):R1 wf (n + 2) 561 [.ref 0,.ref j] [] σ K X:=by
 obtain ⟨a,b,e,s⟩:=h
 exact one_ref hk ek e s h0 hl fun i v a' b' hv s' => k v _ (List.mem_of_getElem? hv) (drawn_set e s')
noncomputable def menu:List Tx:=[[97],[38],[60],[62],[34],[39],[9],[10],[13],[32],[93,93,62],[122]]
noncomputable def menuV:List V:=menu.map fun p => .str (T p)
noncomputable def sign (c:Nat):Prop:=c ∈ menu.flatten
structure OkV (v:Tx):Prop where
 ne:v ≠ []
 len:v.length <= 9
 sg:∀ c ∈ v,sign c
theorem words_go {K:List V -> EE -> Fr -> St -> Prop} {P:PX} {e:EE} {fr:Fr} (items:List V):∀ (acc:List Tx) (σ:St),At0 σ -> acc.length + items.length < 1000 -> (∀ ps σ',ps.length = items.length -> (∀ p ∈ ps,p ∈ menu) -> Drawn σ σ' -> K ((acc ++ ps).map fun p => .str (T p)) e fr σ') ->
  compP (fun _ => true) (fun x σ R => ev (.fn 561 (.cons (.var 1) (.cons (.var 2) .nil)) [] .nil) (EE.to ⟨cx1 wf (n + 2),P⟩ fun y σ => R (some y) σ) [some x,some (.ref 0),some (.lst menuV)] σ retN) items (acc.map fun p => .str (T p)) e fr σ K:=by
 induction items with
 | nil => exact fun acc σ h _ k => ⟨rfl,by have:=k [] σ rfl (fun _ h => nomatch h) (Drawn.refl h); rwa [List.append_nil] at this⟩
 | cons x xs ih =>
  intro acc σ h hl k
  refine ⟨⟨rfl,?_⟩,.mk (one_d h (by decide) (by decide) fun v σ' hv d => ?_)⟩
  ·rw [List.length_map]; exact Nat.le_trans (Nat.le_add_right _ _) (Nat.le_of_lt (Nat.lt_trans hl (by decide)))
  ·obtain ⟨p,hp,rfl⟩:=List.mem_map.mp hv
   have:=ih (acc ++ [p]) σ' d.1 (by rw [List.length_append,Nat.add_assoc,Nat.add_comm [p].length]; exact hl) fun ps σ'' l m d2 => by
    have:=k (p :: ps) σ'' (congrArg (· + 1) l) (List.forall_mem_cons.mpr ⟨hp,m⟩) (d.trans d2)
    rwa [List.append_cons] at this
   rw [List.map_append] at this
   exact this
theorem flat_len {ps:List Tx} (h:∀ p ∈ ps,p ∈ menu):ps.flatten.length <= 3 * ps.length:=by
 have m:∀ p ∈ menu,p.length <= 3:=by decide
 induction ps with
 | nil => exact Nat.le_refl _
 | cons q r ih =>
  rw [List.flatten_cons,List.length_append,List.length_cons,Nat.mul_add,Nat.add_comm]
  exact Nat.add_le_add (ih fun p hp => h p (.tail _ hp)) (m q (h q (.head _)))
theorem words_ok (h:At0 σ) (k:∀ v σ',OkV v -> Drawn σ σ' -> K (.str (T v)) σ'):R1 wf (n + 3) 594 [.ref 0] [] σ K X:=by
 refine r1_of rfl rfl fun P hr _ => elo_ok rfl (.mk (take_d h (by decide) (by decide) fun d σ' hd dr => ?_))
 have hd:d < 3:=Int.ofNat_lt.mp hd
 have sm:d + 1 <= big:=Nat.le_trans (Nat.succ_le_of_lt hd) (by decide)
 have c1:(1:Int) + (d:Int) = ((d + 1:Nat):Int):=Int.add_comm _ _
 refine el_ok add_ok ?_
 rw [c1]
 refine el_ok (range_n sm) (elo_ok (items_n sm) (words_go (ivs (List.range (d + 1))) [] σ' dr.1 ?_ fun ps σ'' l m d2 => ?_))
 ·rw [ivs_len,List.length_range,List.length_nil,Nat.zero_add]; exact Nat.lt_of_le_of_lt (Nat.succ_le_of_lt hd) (by decide)
 ·rw [ivs_len,List.length_range] at l
  rw [List.nil_append]
  have fl:ps.flatten.length <= 9:=Nat.le_trans (flat_len m) (by rw [l]; lia)
  refine el_ok (okL_small (by rw [List.length_map,l]; exact Nat.lt_of_le_of_lt (Nat.succ_le_of_lt hd) (by decide))) (el_ok (join_lst (Nat.le_trans fl (by decide))) (hr _ _ (k _ _ ⟨?_,fl,fun c hc => ?_⟩ (dr.trans d2))))
  ·cases ps with
   | nil => cases l
   | cons q r => intro z; exact (by decide:∀ p ∈ menu,p ≠ []) q (m q (.head _)) (List.append_eq_nil_iff.mp z).1
  ·obtain ⟨p,hp,hc⟩:=List.mem_flatten.mp hc
   exact List.mem_flatten.mpr ⟨p,m p hp,hc⟩
end
section
variable {α β γ:Type} {P Q:α -> β -> Prop}
theorem All2.monoM {l:List α} {m:List β} (x:All2 P l m) (h:∀ a b,b ∈ m -> P a b -> Q a b):All2 Q l m:=by
 induction x with
 | nil => exact .nil
 | cons a r ih => exact .cons (h _ _ (.head _) a) (ih fun a b c => h a b (.tail _ c))
theorem All2.hit [DecidableEq γ] {f:β -> γ} {x:γ} {l:List α} {m:List β} (y:All2 P l m) (h:x ∈ m.map f):∃ pre a post A b B,l = pre ++ a :: post /\ m = A ++ b :: B /\ x ∉ A.map f /\ f b = x /\ All2 P pre A /\ All2 P post B /\ P a b:=by
 induction y with
 | nil => cases h
 | @cons a b l m p r ih =>
  by_cases c:f b = x
  ·exact ⟨[],a,l,[],b,m,rfl,rfl,(fun h => nomatch h),c,.nil,r,p⟩
  ·obtain ⟨pre,a',post,A,b',B,rfl,rfl,z,w⟩:=ih ((List.mem_cons.mp h).resolve_left (Ne.symm c))
   exact ⟨a :: pre,a',post,b :: A,b',B,rfl,rfl,fun h => z ((List.mem_cons.mp h).resolve_left (Ne.symm c)),w.1,.cons p w.2.1,w.2.2⟩
end
structure ElRow (rows0 rows:List Row) (p:Nat) (r:Row) (h:Head) (m:Nat):Prop where
 lt:rows0.length < rows.length
 le:rows.length <= rows0.length + m
 keep:∀ i q,i ≠ p -> rows0[i]? = some q -> rows[i]? = some q
 par:rows[p]? = some { r with ch:=r.ch ++ [rows0.length] }
 el:∃ e,rows[rows0.length]? = some e /\ HeadR rows rows0.length e h [] /\ e.par = some p
section
variable {rows0 rows:List Row} {p m i j:Nat} {r q new e':Row} {h:Head}
theorem rput_len:((rows ++ [new]).set i e').length = rows.length + 1:=by rw [List.length_set,List.length_append]; rfl
theorem put_new (hi:i < rows.length):((rows ++ [new]).set i e')[rows.length]? = some new:=by
 rw [List.getElem?_set_ne (Nat.ne_of_lt hi),List.getElem?_append_right (Nat.le_refl _),Nat.sub_self]; rfl
theorem put_at (hi:i < rows.length):((rows ++ [new]).set i e')[i]? = some e':=by
 rw [List.getElem?_set_self (by rw [List.length_append]; exact Nat.lt_of_lt_of_le hi (Nat.le_add_right _ _))]
theorem put_keep (hj:j ≠ i) (e:rows[j]? = some q):((rows ++ [new]).set i e')[j]? = some q:=by
 rw [List.getElem?_set_ne (Ne.symm hj),List.getElem?_append_left (lt_of_get e)]; exact e
theorem set_keep (hj:j ≠ i) (e:rows[j]? = some q):(rows.set i e')[j]? = some q:=by rw [List.getElem?_set_ne (Ne.symm hj)]; exact e
theorem kid_len:(kid rows p r new).length = rows.length + 1:=rput_len
theorem el_start {nm uri loc:Tx} (hp:p < rows0.length):ElRow rows0 (kid rows0 p r ⟨"element",T nm,T uri,T loc,T [],some p,[],[],[]⟩) p r ⟨nm,uri,loc,[],[]⟩ 1 where
 lt:=by rw [kid_len]; exact Nat.lt_succ_self _
 le:=by rw [kid_len]; exact Nat.le_refl _
 keep _ _:=put_keep
 par:=put_at hp
 el:=⟨_,put_new hp,⟨rfl,rfl,rfl,rfl,rfl,rfl,.nil,.nil⟩,rfl⟩
theorem like_put {e:Row} (he:rows[i]? = some e) (hl:Like e e'):KeepL 0 rows ((rows ++ [new]).set i e'):=fun j w _ z => by
 by_cases c:j = i
 ·subst c; rw [he] at z; cases z; exact ⟨_,put_at (lt_of_get he),hl⟩
 ·exact ⟨w,put_keep c z,rfl,rfl,rfl,rfl,rfl⟩
theorem KeepL.up {rows':List Row} {lo:Nat} (k:KeepL 0 rows rows'):KeepL lo rows rows':=fun i r _ e => k i r (Nat.zero_le _) e
theorem el_put {e:Row} {h':Head} (E:ElRow rows0 rows p r h m) (hp:p < rows0.length) (he:rows[rows0.length]? = some e) (hl:Like e e') (hpar:e'.par = e.par) (hh:HeadR rows rows0.length e h [] -> HeadR ((rows ++ [new]).set rows0.length e') rows0.length e' h' []) :
  ElRow rows0 ((rows ++ [new]).set rows0.length e') p r h' (m + 1):=by
 obtain ⟨e0,he',H,hp'⟩:=E.el
 rw [he] at he'; cases he'
 exact ⟨by rw [rput_len]; exact Nat.lt_succ_of_lt E.lt,by rw [rput_len]; exact Nat.succ_le_succ E.le,fun i q hi z => put_keep (Nat.ne_of_lt (lt_of_get z)) (E.keep i q hi z),put_keep (Nat.ne_of_lt hp) E.par,e',put_at E.lt,hh H,hpar.trans hp'⟩
theorem el_ns {e:Row} {x u:Tx} (E:ElRow rows0 rows p r h m) (hp:p < rows0.length) (he:rows[rows0.length]? = some e) (n0:new.kind = "namespace") (n1:new.name = T x) (n2:new.val = T u) :
  ElRow rows0 (nssed rows rows0.length e new) p r { h with ns:=h.ns ++ [(x,u)] } (m + 1) :=
 el_put E hp he ⟨rfl,rfl,rfl,rfl,rfl⟩ rfl fun H =>
  have kl:KeepL rows0.length _ _:=(like_put (new:=new) (e':={ e with nss:=e.nss ++ [rows.length] }) he ⟨rfl,rfl,rfl,rfl,rfl⟩).up
  ⟨H.1,H.2,H.3,H.4,H.5,H.6,(NsRy.monoL kl H.7).snoc ⟨Nat.le_of_lt E.lt,new,put_new E.lt,n0,n1,n2⟩,AtRy.monoL kl H.8⟩
theorem el_at {e:Row} {a:Att} (E:ElRow rows0 rows p r h m) (hp:p < rows0.length) (he:rows[rows0.length]? = some e) (n0:new.kind = "attribute") (n1:new.name = T a.nm) (n2:new.uri = T a.uri) (n3:new.loc = T a.loc) (n4:new.val = T a.val) :
  ElRow rows0 (atted rows rows0.length e new) p r { h with ats:=h.ats ++ [a] } (m + 1) :=
 el_put E hp he ⟨rfl,rfl,rfl,rfl,rfl⟩ rfl fun H =>
  have kl:KeepL rows0.length _ _:=(like_put (new:=new) (e':={ e with ats:=e.ats ++ [rows.length] }) he ⟨rfl,rfl,rfl,rfl,rfl⟩).up
  ⟨H.1,H.2,H.3,H.4,H.5,H.6,NsRy.monoL kl H.7,(AtRy.monoL kl H.8).snoc ⟨Nat.le_of_lt E.lt,new,put_new E.lt,n0,n1,n2,n3,n4⟩⟩
noncomputable def key (a:Att):Tx × Tx:=(a.uri,a.loc)
theorem key_eq {a:Att} {u l:Tx} (h1:a.uri = u) (h2:a.loc = l):key a = (u,l):=by rw [key,h1,h2]
theorem key_of {a:Att} {u l:Tx} (h:key a = (u,l)):a.uri = u /\ a.loc = l:=⟨congrArg Prod.fst h,congrArg Prod.snd h⟩
theorem AtRy.none {lo:Nat} {u l:Tx} {js:List Nat} {as:List Att} (x:AtRy rows lo js as) (hn:(u,l) ∉ as.map key):∀ j ∈ js,∃ q,rows[j]? = some q /\ ¬ (q.uri = T u /\ q.loc = T l):=fun j hj => by
 obtain ⟨a,ha,_,q,e,_,_,h2,h3,_⟩:=x.left j hj
 exact ⟨q,e,fun c => hn (List.mem_map.mpr ⟨a,ha,key_eq (T_inj.mp (h2.symm.trans c.1)) (T_inj.mp (h3.symm.trans c.2))⟩)⟩
theorem NsRy.none {lo:Nat} {x:Tx} {js:List Nat} {ns:List (Tx × Tx)} (y:NsRy rows lo js ns) (hn:x ∉ ns.map (·.1)):∀ j ∈ js,∃ q,rows[j]? = some q /\ q.name ≠ T x:=fun j hj => by
 obtain ⟨a,ha,_,q,e,_,h1,_⟩:=y.left j hj
 exact ⟨q,e,fun c => hn (List.mem_map.mpr ⟨a,ha,T_inj.mp (h1.symm.trans c)⟩)⟩
theorem el_again {e:Row} {u l nm v:Tx} (E:ElRow rows0 rows p r h m) (hp:p < rows0.length) (he:rows[rows0.length]? = some e) (nd:(h.ats.map key).Nodup) (hk:(u,l) ∈ h.ats.map key) {C:Prop}
  (k:∀ pre j post A a B q,e.ats = pre ++ j :: post -> h.ats = A ++ a :: B -> key a = (u,l) -> rows[j]? = some q -> (q.uri = T u /\ q.loc = T l) -> (∀ j ∈ pre,∃ q,rows[j]? = some q /\ ¬ (q.uri = T u /\ q.loc = T l)) ->
   ElRow rows0 (rows.set j { q with name:=T nm,val:=T v }) p r { h with ats:=A ++ { a with nm:=nm,val:=v } :: B } m -> C):C:=by
 obtain ⟨e0,he',H,hpar⟩:=E.el
 rw [he] at he'; cases he'
 obtain ⟨pre,j,post,A,a,B,e1,e2,x1,ka,x4,x5,l1,q,y0,y1,y2,y3,y4,y5⟩:=H.8.hit hk
 have ku:=key_of ka
 rw [ku.1] at y3; rw [ku.2] at y4
 have hj:j ≠ rows0.length:=fun c => by
  rw [c,he] at y0; cases y0
  rw [H.1] at y1
  exact sne (by kernel_rfl) y1
 have hB:(u,l) ∉ B.map key:=by
  rw [e2,List.map_append,List.map_cons,ka] at nd
  exact (List.nodup_cons.mp (List.nodup_append.mp nd).2.1).1
 have hs:(rows.set j { q with name:=T nm,val:=T v })[j]? = some { q with name:=T nm,val:=T v }:=List.getElem?_set_self (lt_of_get y0)
 have ks:∀ {js as},AtRy rows rows0.length js as -> (u,l) ∉ as.map key -> AtRy (rows.set j { q with name:=T nm,val:=T v }) rows0.length js as:=fun x hn => x.monoM fun i b hb w => by
  obtain ⟨l1,w,ei,h0,h1,h2,h3,h4⟩:=w
  refine ⟨l1,w,set_keep (fun c => ?_) ei,h0,h1,h2,h3,h4⟩
  subst c
  rw [ei] at y0; cases y0
  exact hn (List.mem_map.mpr ⟨b,hb,key_eq (T_inj.mp (h2.symm.trans y3)) (T_inj.mp (h3.symm.trans y4))⟩)
 refine k pre j post A a B q e1 e2 ka y0 ⟨y3,y4⟩ (AtRy.none x4 x1) ⟨by rw [List.length_set]; exact E.lt,by rw [List.length_set]; exact E.le,fun i w c z => ?_,?_,e,set_keep (Ne.symm hj) he,⟨H.1,H.2,H.3,H.4,H.5,H.6,?_,?_⟩,hpar⟩
 ·exact set_keep (fun c => absurd l1 (Nat.not_le.mpr (c ▸ lt_of_get z))) (E.keep i w c z)
 ·exact set_keep (fun c => absurd l1 (Nat.not_le.mpr (c ▸ hp))) E.par
 ·exact H.7.mono fun i b w => by
   obtain ⟨l1,w,ei,h0,h1⟩:=w
   refine ⟨l1,w,set_keep (fun c => ?_) ei,h0,h1⟩
   subst c
   rw [ei] at y0; cases y0
   rw [h0] at y1
   exact sne (by kernel_rfl) y1
 ·rw [e1]
  exact All2.app (.cons ⟨l1,_,hs,y1,rfl,y3.trans (congrArg T ku.1.symm),y4.trans (congrArg T ku.2.symm),rfl⟩ (ks x5 hB)) (ks x4 x1)
end
theorem seq {s:CS} {r:CSs} {e:EE} {fr:Fr} {σ:St} {N:KN} (h:evS s e fr σ fun e fr σ => evSs r e fr σ N):evSs (.cons s r) e fr σ N:=h
noncomputable def elMenu:List (Tx × Tx):=[([97],[]),([98],[117]),([112,58,99],[118]),([113,58,100],[119]),([97],[117]),([112,58,101],[119])]
noncomputable def atMenu:List (Tx × Tx):=[([109],[]),([110],[]),([115,58,109],[121]),([113,58,110],[119])]
noncomputable def lcl (x:Tx):Tx:=(splitL 58 x).getLast (splitL_ne _ _)
noncomputable def pfx (x:Tx):Tx:=if 58 ∈ x then (splitL 58 x).head (splitL_ne _ _) else []
structure OkH (h:Head):Prop where
 nm:(h.nm,h.uri) ∈ elMenu
 loc:h.loc = lcl h.nm
 ns:∃ b1 b2:Bool,(b1 = true -> pfx h.nm ≠ [] \/ h.uri ≠ []) /\ h.ns = (if b1 then [(pfx h.nm,h.uri)] else []) ++ (if b2 then [([114],[120])] else [])
 ats:∀ a ∈ h.ats,(a.nm,a.uri) ∈ atMenu /\ a.loc = lcl a.nm /\ OkV a.val
 nd:(h.ats.map key).Nodup
noncomputable def Made (σ σ':St) (k:Nat) (rows:List Row):Prop:=At0 σ' /\ IsT σ' k rows /\ ∃ c,σ' = (σ.set 0 c).set k (.pack (tree rows))
section
variable {σ σ' σ'':St} {k:Nat} {rows rows':List Row}
theorem Made.draw (hk:k ≠ 0) (m:Made σ σ' k rows) (d:Drawn σ' σ''):Made σ σ'' k rows:=by
 obtain ⟨a,t,c,rfl⟩:=m
 refine ⟨d.1,d.tree hk t,?_⟩
 obtain ⟨_,c',rfl⟩:=d
 exact ⟨c',by rw [List.set_comm _ _ hk,set_set]⟩
theorem Made.put (hk:k ≠ 0) (m:Made σ σ' k rows) (hb:rows'.length <= big):Made σ (σ'.set k (.pack (tree rows'))) k rows':=by
 obtain ⟨⟨a,b,e,s⟩,t,c,rfl⟩:=m
 exact ⟨⟨a,b,(List.getElem?_set_ne hk).trans e,s⟩,⟨List.getElem?_set_self (lt_of_get t.1),hb⟩,c,List.set_set ..⟩
theorem Made.start (hk:k ≠ 0) (a:At0 σ) (t:IsT σ k rows):Made σ σ k rows:=by
 obtain ⟨x,y,e,s⟩:=id a
 exact ⟨a,t,src x y,by rw [set_same e,set_same t.1]⟩
theorem Made.trans (hk:k ≠ 0) (m:Made σ σ' k rows) (m':Made σ' σ'' k rows'):Made σ σ'' k rows':=by
 obtain ⟨_,_,c,rfl⟩:=m
 obtain ⟨a,t,c',rfl⟩:=m'
 refine ⟨a,t,c',?_⟩
 rw [List.set_comm _ _ hk,set_set,List.set_set]
theorem Made.same (hk:k ≠ 0) (a:At0 σ) (t:IsT σ k rows) (d:Drawn σ σ'):Made σ σ' k rows:=(Made.start hk a t).draw hk d
theorem place_last {n:Nat} (h:0 < n) (hb:n <= big):place n (-1) = some (n - 1):=by
 have hb:=Nat.lt_of_le_of_lt hb big_lt
 have e:(-1:Int) + n = ((n - 1:Nat):Int):=by lia
 unfold place seqIndex?
 rw [if_pos (by decide)]
 show (if (decide (0 <= (-1:Int) + n) && decide ((-1:Int) + n < n)) = true then some ((-1:Int) + n).toNat else none) = _
 rw [e,if_pos (Bool.and_eq_true_iff.mpr ⟨decide_eq_true (Int.natCast_nonneg _),decide_eq_true (Int.ofNat_lt.mpr (Nat.sub_lt h Nat.one_pos))⟩)]; rfl
theorem sub_last {l:List V} (h:l ≠ []) (hl:l.length <= big):subF σ (.lst l) (.int (-1)) = some (l.getLast h):=by
 show atL l (place l.length (-1)) = _
 rw [place_last (List.length_pos_iff.mpr h) hl]
 show l[l.length - 1]? = _
 rw [<- List.getLast?_eq_getElem?,List.getLast?_eq_some_getLast h]
theorem sub_head {l:List V} (h:l ≠ []) (hl:l.length <= big):subF σ (.lst l) (.int 0) = some (l.head h) :=
 sub_lst (σ:=σ) (i:=0) (v:=l.head h) (l:=l) (by cases l with | nil => exact absurd rfl h | cons a r => rfl) hl
theorem sub_t0 {a b:V}:subF σ (.tup [a,b]) (.int 0) = some a:=rfl
theorem sub_t1 {a b:V}:subF σ (.tup [a,b]) (.int 1) = some b:=rfl
theorem eq0:cmpQ σ .Eq (.int ((0:Nat):Int)) (.int 0) = some true:=rfl
theorem eqS {d:Nat}:cmpQ σ .Eq (.int ((d + 1:Nat):Int)) (.int 0) = some false:=congrArg some (decide_eq_false (fun h => Nat.succ_ne_zero d (Int.ofNat.inj h)))
end
section
variable {σ:St} {x:Tx}
theorem sp_ne (x:Tx):((splitL 58 x).map fun p => V.str (T p)) ≠ []:=fun h => splitL_ne 58 x (List.map_eq_nil_iff.mp h)
theorem sp_len (h:x.length < 900):((splitL 58 x).map fun p => V.str (T p)).length <= big:=by
 rw [List.length_map]; exact Nat.le_trans (splitL_len x) (Nat.le_trans h (by decide))
theorem nsplit (h:x.length < 900):bmF false .split (.str (T x)) [.str (T [58])] σ = .ok (.lst ((splitL 58 x).map fun p => .str (T p))) σ:=split_c (Nat.lt_trans h (by decide))
theorem nlocal (h:x.length < 900):subF σ (.lst ((splitL 58 x).map fun p => .str (T p))) (.int (-1)) = some (.str (T (lcl x))):=by
 rw [sub_last (sp_ne x) (sp_len h),List.getLast_map]; rfl
theorem nfirst (h:x.length < 900) (hc:58 ∈ x):subF σ (.lst ((splitL 58 x).map fun p => .str (T p))) (.int 0) = some (.str (T (pfx x))):=by
 rw [sub_head (sp_ne x) (sp_len h),List.head_map,pfx,if_pos hc]
theorem ncolon:cmpQ σ .In (.str (T [58])) (.str (T x)) = some (decide (58 ∈ x)):=congrArg some sIn_one
end
theorem elMenu_len:∀ p ∈ elMenu,p.1.length < 10 /\ p.2.length < 10:=by decide
theorem atMenu_len:∀ p ∈ atMenu,p.1.length < 10 /\ p.2.length < 10:=by decide
noncomputable def pairV (l:List (Tx × Tx)):List V:=l.map fun p => .tup [.str (T p.1),.str (T p.2)]
section
variable {wf n k p m:Nat} {σ:St} {K:V -> St -> Prop} {X:Addr -> St -> Prop} {P:PX} {N:KN} {rows0 rows:List Row} {r:Row} {h:Head} {nm uri pf x u:Tx} {y z:Option V}
theorem named_ok (h:At0 σ) (kk:∀ p σ',p ∈ elMenu -> Drawn σ σ' -> K (.tup [.str (T p.1),.str (T p.2)]) σ'):R1 wf (n + 3) 601 [.ref 0] [] σ K X :=
 r1_of rfl rfl fun P hr _ => .mk (one_d (l:=pairV elMenu) h (by decide) (by decide) fun v σ' hv d => hr _ _ (by obtain ⟨p,hp,rfl⟩:=List.mem_map.mp hv; exact kk p σ' hp d))
noncomputable def bodyE:CSs:=(.cons (.asg 8 (.fn 561 (.cons (.var 0) (.cons (.list false (.cons (.tup (.cons (.const (.str (T [109]))) (.cons (.const (.str (T []))) .nil))) (.cons (.tup (.cons (.const (.str (T [110]))) (.cons (.const (.str (T []))) .nil))) (.cons (.tup (.cons (.const (.str (T [115,58,109]))) (.cons (.const (.str (T [121]))) .nil))) (.cons (.tup (.cons (.const (.str (T [113,58,110]))) (.cons (.const (.str (T [119]))) .nil))) .nil))))) .nil)) [] .nil)) (.cons (.expr (.meth false (.var 1) "set_attribute" [(536,435)] .none (.cons (.var 5) (.cons (.sub (.var 8) (.const (.int 0))) (.cons (.sub (.var 8) (.const (.int 1))) (.cons (.sub (.meth false (.sub (.var 8) (.const (.int 0))) "split" [] (some .split) (.cons (.const (.str (T [58]))) .nil) [] .nil) (.neg (.const (.int 1)))) (.cons (.fn 594 (.cons (.var 0) .nil) [] .nil) .nil))))) [] .nil)) .nil))
noncomputable abbrev frE (k p:Nat) (nm uri pf:Tx) (id:Nat) (x y:Option V):Fr:=[some (.ref 0),some (.ref k),some (iv p),some (.str (T nm)),some (.str (T uri)),some (iv id),some (.str (T pf)),x,y]
theorem turnE {j:V} (hk:k ≠ 0) (a:At0 σ) (t:IsT σ k rows) (E:ElRow rows0 rows p r h m) (hp:p < rows0.length) (O:OkH h) (hn:h.ats.length < 1000) (hb:rows.length < big)
  (kk:∀ rows' h' y' z' σ',Made σ σ' k rows' -> ElRow rows0 rows' p r h' (m + 1) -> OkH h' -> h'.ats.length <= h.ats.length + 1 -> N ⟨cx1 wf (n + 4),P⟩ (frE k p nm uri pf rows0.length y' z') σ') :
  B1 7 bodyE j ⟨cx1 wf (n + 4),P⟩ (frE k p nm uri pf rows0.length y z) σ N:=by
 refine Ca.mk (one_d (l:=pairV atMenu) a (by decide) (by decide) fun v σ1 hv d1 => ?_)
 obtain ⟨q,hq,rfl⟩:=List.mem_map.mp hv
 have l9:q.1.length < 900:=Nat.lt_trans (atMenu_len q hq).1 (by decide)
 refine elo_ok (psel (d1.tree hk t) (by kernel_rfl)) (elo_ok sub_t0 (elo_ok sub_t1 (elo_ok sub_t0 (elo_ok rfl (el_ok (nsplit l9) (elo_ok (nlocal l9) (.mk (words_ok d1.1 fun w σ2 hw d2 => ?_))))))))
 have M:Made σ σ2 k rows:=((Made.start hk a t).draw hk d1).draw hk d2
 have t2:IsT σ2 k rows:=M.2.1
 obtain ⟨e,he,H,hpar⟩:=E.el
 have ab:e.ats.length < big:=by rw [H.8.len]; exact Nat.lt_trans hn (by decide)
 by_cases c:(q.2,lcl q.1) ∈ h.ats.map key
 ·refine el_again (nm:=q.1) (v:=w) E hp he O.nd c fun pre i post A b B z y1 y2 y3 y4 y5 y6 E' => ca_ok (pattr_old t2 he H.1 hb y1 y4 y5 y6) ?_
  have ky:=key_of y3
  have hA:=y2 ▸ O.4
  have nd:=O.5
  rw [y2,List.map_append,List.map_cons] at nd
  refine kk _ _ _ _ _ (M.put hk (by rw [List.length_set]; exact Nat.le_of_lt hb)) ⟨E'.1,Nat.le_succ_of_le E'.2,E'.3,E'.4,E'.5⟩ ⟨O.1,O.2,O.3,fun x hx => ?_,?_⟩ ?_
  ·rcases List.mem_append.mp hx with hx | hx
   ·exact hA _ (List.mem_append_left _ hx)
   ·rcases List.mem_cons.mp hx with rfl | hx
    ·exact ⟨by rw [ky.1]; exact hq,ky.2,hw⟩
    ·exact hA _ (List.mem_append_right _ (.tail _ hx))
  ·rw [List.map_append,List.map_cons]; exact nd
  ·rw [y2,List.length_append,List.length_append]; exact Nat.le_succ _
 ·refine ca_ok (pattr_new t2 he H.1 hb ab (AtRy.none H.8 c)) ?_
  refine kk _ _ _ _ _ (M.put hk (by rw [atted,rput_len]; exact hb)) (el_at (a:=⟨q.1,q.2,lcl q.1,w⟩) E hp he rfl rfl rfl rfl rfl) ⟨O.1,O.2,O.3,fun x hx => ?_,?_⟩ ?_
  ·rcases List.mem_append.mp hx with hx | hx
   ·exact O.4 _ hx
   ·rw [List.mem_singleton.mp hx]; exact ⟨hq,rfl,hw⟩
  ·rw [List.map_append]
   exact List.nodup_append.mpr ⟨O.5,List.pairwise_singleton _ _,fun x hx y hy z => c (by rw [z,List.mem_singleton.mp hy] at hx; exact hx)⟩
  ·rw [List.length_append]; exact Nat.le_refl _
theorem loopE (hk:k ≠ 0) (hp:p < rows0.length) (is:List Nat):∀ (rows:List Row) (m:Nat) (h:Head) (y z:Option V) (σ:St),At0 σ -> IsT σ k rows -> ElRow rows0 rows p r h m -> OkH h -> h.ats.length + is.length < 1000 -> rows0.length + m + is.length < big ->
  (∀ rows' h' y' z' σ',Made σ σ' k rows' -> ElRow rows0 rows' p r h' (m + is.length) -> OkH h' -> h'.ats.length <= h.ats.length + is.length -> N ⟨cx1 wf (n + 4),P⟩ (frE k p nm uri pf rows0.length y' z') σ') ->
  forP (fun _ => true) (B1 7 bodyE) (ivs is) ⟨cx1 wf (n + 4),P⟩ (frE k p nm uri pf rows0.length y z) σ N:=by
 induction is with
 | nil => exact fun rows m h y z σ a t E O _ _ kk => ⟨rfl,kk _ _ _ _ _ (Made.start hk a t) E O (Nat.le_refl _)⟩
 | cons i is ih =>
  intro rows m h y z σ a t E O hn hb kk
  rw [List.length_cons] at hn hb kk
  refine ⟨rfl,turnE hk a t E hp O (Nat.lt_of_le_of_lt (Nat.le_add_right _ _) hn) (Nat.lt_of_le_of_lt E.le (Nat.lt_of_le_of_lt (Nat.le_add_right _ _) hb)) fun rows1 h1 y1 z1 σ1 M1 E1 O1 l1 =>
   ih rows1 (m + 1) h1 y1 z1 σ1 M1.1 M1.2.1 E1 O1 (Nat.lt_of_le_of_lt (Nat.add_le_add_right l1 _) (by rw [Nat.add_right_comm]; exact hn)) (by rw [<- Nat.add_assoc,Nat.add_right_comm _ 1]; exact hb) fun rows2 h2 y2 z2 σ2 M2 E2 O2 l2 =>
   kk _ _ _ _ _ (M1.trans hk M2) (by rw [Nat.add_right_comm] at E2; exact E2) O2 (Nat.le_trans l2 (by rw [<- Nat.add_assoc,Nat.add_right_comm]; exact Nat.add_le_add_right l1 _))⟩
theorem pfx_menu:∀ p ∈ elMenu,([114]:Tx) ≠ pfx p.1:=by decide
noncomputable def stE1:CS:=(.ite (.and (.cmp (.fn 554 (.cons (.var 0) (.cons (.const (.int 2)) .nil)) [] .nil) [.Eq] (.cons (.const (.int 0)) .nil)) (.and (.or (.cmp (.var 6) [.NotEq] (.cons (.const (.str (T []))) .nil)) (.or (.cmp (.var 4) [.NotEq] (.cons (.const (.str (T []))) .nil)) (.const (.bool false)))) (.const (.bool true)))) (.cons (.expr (.meth false (.var 1) "add_namespace" [(536,442)] .none (.cons (.var 5) (.cons (.var 6) (.cons (.var 4) .nil))) [] .nil)) .nil) .nil)
noncomputable def stE2:CS:=(.ite (.cmp (.fn 554 (.cons (.var 0) (.cons (.const (.int 3)) .nil)) [] .nil) [.Eq] (.cons (.const (.int 0)) .nil)) (.cons (.expr (.meth false (.var 1) "add_namespace" [(536,442)] .none (.cons (.var 5) (.cons (.const (.str (T [114]))) (.cons (.const (.str (T [120]))) .nil))) [] .nil)) .nil) .nil)
theorem ns_put (hk:k ≠ 0) (a:At0 σ) (t:IsT σ k rows) (E:ElRow rows0 rows p r h m) (hp:p < rows0.length) (hn:x ∉ h.ns.map (·.1)) (hl:h.ns.length < 1000) (hb:rows.length < big) {C:Prop}
  (kk:∀ rows' σ',Ok (innF (cx1 wf (n + 3)) 442 (.ref k) [iv rows0.length,.str (T x),.str (T u)] [] σ) (iv rows.length) σ' -> Made σ σ' k rows' -> ElRow rows0 rows' p r { h with ns:=h.ns ++ [(x,u)] } (m + 1) -> C):C:=by
 obtain ⟨e,he,H,hpar⟩:=E.el
 have nb:e.nss.length < big:=by rw [H.7.len]; exact Nat.lt_trans hl (by decide)
 exact kk _ _ (pns_new t he H.1 hb nb (NsRy.none H.7 hn)) ((Made.start hk a t).put hk (by rw [nssed,rput_len]; exact hb)) (el_ns E hp he rfl rfl rfl)
theorem el_same (E:ElRow rows0 rows p r h m):ElRow rows0 rows p r { h with ns:=h.ns ++ [] } (m + 1):=by
 rw [List.append_nil]; exact ⟨E.1,Nat.le_succ_of_le E.2,E.3,E.4,E.5⟩
theorem stE1_ok (hk:k ≠ 0) (a:At0 σ) (t:IsT σ k rows) (E:ElRow rows0 rows p r h m) (hp:p < rows0.length) (hn:h.ns = []) (hb:rows.length < big)
  (kk:∀ (b:Bool) rows' σ',Made σ σ' k rows' -> ElRow rows0 rows' p r { h with ns:=h.ns ++ (if b then [(pf,uri)] else []) } (m + 1) -> (b = true -> pf ≠ [] \/ uri ≠ []) -> N ⟨cx1 wf (n + 3),P⟩ (frE k p nm uri pf rows0.length y z) σ') :
  evS stE1 ⟨cx1 wf (n + 3),P⟩ (frE k p nm uri pf rows0.length y z) σ N:=by
 refine Ca.mk (take_d a (by decide) (by decide) fun d σ1 hd dr => ?_)
 have M:=Made.same hk a t dr
 have no:=kk false rows σ1 M (el_same E) (fun h => nomatch h)
 have yes (c:pf ≠ [] \/ uri ≠ []):=ns_put (wf:=wf) (n:=n) (x:=pf) (u:=uri) hk M.1 M.2.1 E hp (by rw [hn]; exact List.not_mem_nil) (by rw [hn]; decide) hb (C:=∃ σ',Ok (innF (cx1 wf (n + 3)) 442 (.ref k) [iv rows0.length,.str (T pf),.str (T uri)] [] σ1) (iv rows.length) σ' /\ N ⟨cx1 wf (n + 3),P⟩ (frE k p nm uri pf rows0.length y z) σ')
  fun rows' σ' q m2 e2 => ⟨σ',q,kk true rows' σ' (M.trans hk m2) e2 fun _ => c⟩
 cases d with
 | succ d => exact elo_ok eqS (br_f rfl (br_f rfl no))
 | zero =>
  refine elo_ok eq0 (br_t rfl ?_)
  by_cases c2:pf = []
  ·by_cases c3:uri = []
   ·exact elo_ok (nes_f (congrArg T c2)) (br_f rfl (elo_ok (nes_f (congrArg T c3)) (br_f rfl (br_f rfl (br_f rfl no)))))
   ·obtain ⟨σ',q,z⟩:=yes (.inr c3)
    exact elo_ok (nes_f (congrArg T c2)) (br_f rfl (elo_ok (nes_t fun h => c3 (T_inj.mp h)) (br_t rfl (br_t rfl (br_t rfl (elo_ok (psel M.2.1 (by kernel_rfl)) (ca_ok q z)))))))
  ·obtain ⟨σ',q,z⟩:=yes (.inl c2)
   exact elo_ok (nes_t fun h => c2 (T_inj.mp h)) (br_t rfl (br_t rfl (br_t rfl (elo_ok (psel M.2.1 (by kernel_rfl)) (ca_ok q z)))))
theorem stE2_ok (hk:k ≠ 0) (a:At0 σ) (t:IsT σ k rows) (E:ElRow rows0 rows p r h m) (hp:p < rows0.length) (hn:[114] ∉ h.ns.map (·.1)) (hl:h.ns.length < 1000) (hb:rows.length < big)
  (kk:∀ (b:Bool) rows' σ',Made σ σ' k rows' -> ElRow rows0 rows' p r { h with ns:=h.ns ++ (if b then [([114],[120])] else []) } (m + 1) -> N ⟨cx1 wf (n + 3),P⟩ (frE k p nm uri pf rows0.length y z) σ') :
  evS stE2 ⟨cx1 wf (n + 3),P⟩ (frE k p nm uri pf rows0.length y z) σ N:=by
 refine Ca.mk (take_d a (by decide) (by decide) fun d σ1 hd dr => ?_)
 have M:=Made.same hk a t dr
 cases d with
 | zero => exact ns_put hk M.1 M.2.1 E hp hn hl hb fun rows' σ' q m2 e2 => elo_ok eq0 (br_t rfl (elo_ok (psel M.2.1 (by kernel_rfl)) (ca_ok q (kk true rows' σ' (M.trans hk m2) e2))))
 | succ d => exact elo_ok eqS (br_f rfl (kk false rows σ1 M (el_same E)))
theorem element_ok (hk:k ≠ 0) (a:At0 σ) (t:IsT σ k rows0) (h:rows0[p]? = some r) (hr:r.kind = "root" \/ r.kind = "element") (hb:rows0.length + 10 < big) (hc:r.ch.length < big)
  (kk:∀ rows' h' σ',Made σ σ' k rows' -> ElRow rows0 rows' p r h' 10 -> OkH h' -> h'.ats.length <= 2 -> K (iv rows0.length) σ'):R1 wf (n + 5) 608 [.ref 0,.ref k,iv p] [] σ K X:=by
 have hp:=lt_of_get h
 have hb1:rows0.length + 3 < big:=Nat.lt_of_le_of_lt (Nat.add_le_add_left (by decide) _) hb
 refine r1_of rfl rfl fun P hR _ => Ca.mk (named_ok a fun q σ1 hq d1 => ?_)
 obtain ⟨nm,uri⟩:=q
 have l9:nm.length < 900:=Nat.lt_trans (elMenu_len _ hq).1 (by decide)
 have t1:=d1.tree hk t
 have hb0:rows0.length < big:=Nat.lt_of_le_of_lt (Nat.le_add_right _ _) hb1
 have E1:=el_start (r:=r) (nm:=nm) (uri:=uri) (loc:=lcl nm) hp
 have M1:=((Made.start hk a t).draw hk d1).put hk (rows':=kid rows0 p r ⟨"element",T nm,T uri,T (lcl nm),T [],some p,[],[],[]⟩) (by rw [kid_len]; exact hb0)
 refine elo_ok (psel t1 (by kernel_rfl)) (elo_ok rfl (el_ok (nsplit l9) (elo_ok (nlocal l9) (ca_ok (pelement t1 h hr hb0 hc) ?_))))
 generalize σ1.set k (.pack (tree (kid rows0 p r ⟨"element",T nm,T uri,T (lcl nm),T [],some p,[],[],[]⟩))) = σ2 at M1
 have go:evSs (.cons stE1 (.cons stE2 (.cons (.for1 7 (.bf false .range (.cons (.fn 554 (.cons (.var 0) (.cons (.const (.int 3)) .nil)) [] .nil) .nil)) bodyE) (.cons (.ret (.var 5)) .nil)))) ⟨cx1 wf (n + 4),P⟩ (frE k p nm uri (pfx nm) rows0.length none none) σ2 endN:=by
  refine seq (stE1_ok hk M1.1 M1.2.1 E1 hp rfl (Nat.lt_of_le_of_lt E1.le (Nat.lt_of_le_of_lt (Nat.add_le_add_left (by decide) _) hb1)) fun b1 rows3 σ3 M3 E3 c3 => seq (stE2_ok hk M3.1 M3.2.1 E3 hp ?_ ?_ (Nat.lt_of_le_of_lt E3.le (Nat.lt_of_le_of_lt (Nat.add_le_add_left (by decide) _) hb1)) fun b2 rows4 σ4 M4 E4 => Ca.mk (take_d M4.1 (by decide) (by decide) fun d σ5 hd dr5 => ?_)))
  ·cases b1 with
   | false => exact List.not_mem_nil
   | true => exact fun h => pfx_menu _ hq (List.mem_singleton.mp h)
  ·cases b1 with
   | false => exact (by decide:0 < 1000)
   | true => exact (by decide:1 < 1000)
  ·have M5:=Made.same hk M4.1 M4.2.1 dr5
   have hd:d < 3:=Int.ofNat_lt.mp hd
   have hd2:d <= 2:=Nat.le_of_lt_succ hd
   have sm:d <= big:=Nat.le_trans hd2 (by decide)
   refine el_ok (range_n sm) (elo_ok (items_n sm) (loopE hk hp (List.range d) rows4 3 _ none none σ5 M5.1 M5.2.1 E4 ⟨hq,rfl,⟨b1,b2,c3,rfl⟩,(fun _ h => nomatch h),.nil⟩ ?_ ?_ fun rows6 h6 y6 z6 σ6 M6 E6 O6 l6 => hR _ _ (kk rows6 h6 σ6 (((M1.trans hk M3).trans hk M4).trans hk (M5.trans hk M6)) ⟨E6.1,?_,E6.3,E6.4,E6.5⟩ O6 ?_)))
   ·rw [List.length_range]; exact Nat.lt_of_le_of_lt (Nat.add_le_add (Nat.le_refl 0) hd2) (by decide)
   ·rw [List.length_range]; exact Nat.lt_of_le_of_lt (Nat.add_le_add_left (Nat.le_trans hd2 (by decide:2 <= 7)) _) hb
   ·rw [List.length_range] at E6; exact Nat.le_trans E6.2 (Nat.add_le_add_left (Nat.le_trans (Nat.add_le_add_left hd2 _) (by decide)) _)
   ·rw [List.length_range] at l6; exact Nat.le_trans l6 (Nat.le_trans (Nat.le_of_eq (Nat.zero_add _)) hd2)
 by_cases c:58 ∈ nm
 ·exact elo_ok ncolon (br_t (decide_eq_true c) (elo_ok rfl (el_ok (nsplit l9) (elo_ok (nfirst l9 c) go))))
 ·have hpf:pfx nm = []:=if_neg c
  rw [hpf] at go
  exact elo_ok ncolon (br_f (decide_eq_false c) go)
end
noncomputable def cmMenu:List Tx:=[[],[32,97,32,45,32,98,32],[60,38,62]]
noncomputable def piMenu:List Tx:=[[],[97,61,34,49,34],[120,32,62,32,121]]
noncomputable def Leaf.isTx:Leaf -> Bool
 | .tx _ => true
 | .cm _ => false
 | .pi .. => false
noncomputable def OkK:Leaf -> Prop
 | .tx v => OkV v
 | .cm v => v ∈ cmMenu
 | .pi t d => t = [103,111] /\ d ∈ piMenu
noncomputable def OkF:Bool -> Fo -> Prop
 | _,.nil => True
 | b,.lf _ k r => OkK k /\ (b = true -> k.isTx = false) /\ OkF k.isTx r
 | _,.el _ h c r => (OkH h /\ h.ats.length <= 2) /\ OkF false c /\ OkF false r
noncomputable def lastTx:Bool -> Fo -> Bool
 | b,.nil => b
 | _,.lf _ k r => lastTx k.isTx r
 | _,.el _ _ _ r => lastTx false r
noncomputable def isEl:Fo -> Bool
 | .el _ _ _ _ => true
 | .nil => false
 | .lf .. => false
theorem OkF.weak {b:Bool} {f:Fo} (h:OkF true f):OkF b f:=by
 cases f with
 | nil => trivial
 | lf => exact ⟨h.1,fun _ => h.2.1 rfl,h.2.2⟩
 | el => exact h
theorem OkF.app {g f:Fo}:∀ {b:Bool},OkF b f -> OkF (lastTx b f) g -> OkF b (f.app g):=by
 induction f with
 | nil => exact fun _ hg => hg
 | lf i k r ih => exact fun h hg => ⟨h.1,h.2.1,ih h.2.2 hg⟩
 | el i h c r _ ih => exact fun h hg => ⟨h.1,h.2.1,ih h.2.2 hg⟩
theorem lastTx_ins {p:Nat} {g f:Fo}:∀ {b:Bool},lastTx b (ins p g f) = lastTx b f:=by
 induction f with
 | nil => exact rfl
 | lf i k r ih => exact ih
 | el i h c r _ ih => exact ih
theorem OkF.ins {p:Nat} {g:Fo} {rows:List Row} {lo:Nat} {r:Row} (hr:rows[p]? = some r) (hg:∀ c,Rep rows lo c -> ids c = r.ch -> OkF (lastTx false c) g) {f:Fo}:∀ {b:Bool},OkF b f -> Rep rows lo f -> OkF b (ins p g f):=by
 induction f with
 | nil => exact fun _ _ => trivial
 | lf i k r ih => exact fun h q => ⟨h.1,h.2.1,ih h.2.2 q.2⟩
 | el i hd c r ih ih2 =>
  intro b h q
  obtain ⟨⟨_,w,e,H⟩,q1,q2⟩:=q
  have y:=ih h.2.1 q1
  refine ⟨h.1,?_,ih2 h.2.2 q2⟩
  by_cases z:i = p
  ·subst z
   rw [hr] at e; cases e
   rw [if_pos rfl]
   exact OkF.app y (by rw [lastTx_ins]; exact hg c q1 H.6.symm)
  ·rw [if_neg z]; exact y
theorem isEl_ins {p:Nat} {g f:Fo}:isEl (ins p g f) = isEl f:=by cases f <;> rfl
theorem isEl_app {g f:Fo} (h:isEl f = true):isEl (f.app g) = true:=by
 cases f with
 | nil => cases h
 | lf => cases h
 | el => rfl
theorem leaf_tx {k:Leaf} {p:Option Nat}:(leafRow k p).kind = "text" ↔ k.isTx = true:=by
 cases k with
 | tx => exact ⟨fun _ => rfl,fun _ => rfl⟩
 | cm => exact ⟨fun h => absurd h (sne (by kernel_rfl)),nofun⟩
 | pi => exact ⟨fun h => absurd h (sne (by kernel_rfl)),nofun⟩
theorem ids_nil {f:Fo} (h:ids f = []):f = .nil:=by
 cases f with
 | nil => rfl
 | lf => cases h
 | el => cases h
noncomputable def LastR (rows:List Row) (l:List Nat) (b:Bool):Prop:=∃ j q,l.getLast? = some j /\ rows[j]? = some q /\ (q.kind = "text" ↔ b = true)
theorem last_step {rows:List Row} {b:Bool} {i:Nat} {q:Row} {rest:Fo} (ih:ids rest ≠ [] -> LastR rows (ids rest) (lastTx b rest)) (e:rows[i]? = some q) (h:q.kind = "text" ↔ b = true):LastR rows (i :: ids rest) (lastTx b rest):=by
 by_cases c:ids rest = []
 ·rw [ids_nil c]; exact ⟨i,q,rfl,e,h⟩
 ·obtain ⟨j,w,e1,z⟩:=ih c
  refine ⟨j,w,?_,z⟩
  cases hx:ids rest with
  | nil => exact absurd hx c
  | cons x l => rw [List.getLast?_cons_cons,<- hx]; exact e1
theorem lastTx_row {rows:List Row} {lo:Nat} {f:Fo}:∀ {b:Bool},Rep rows lo f -> ids f ≠ [] -> LastR rows (ids f) (lastTx b f):=by
 induction f with
 | nil => exact fun _ h => absurd rfl h
 | lf i k r ih =>
  intro b x _
  obtain ⟨⟨_,q,e,h⟩,x⟩:=x
  exact last_step (ih x) e (by rw [h]; exact leaf_tx)
 | el i hd c r _ ih =>
  intro b x _
  obtain ⟨⟨_,q,e,h⟩,_,x⟩:=x
  exact last_step (ih x) e ⟨fun z => absurd (h.1.symm.trans z) (sne (by kernel_rfl)),nofun⟩
structure RootR (R:Row) (F:Fo):Prop where
 kind:R.kind = "root"
 name:R.name = T []
 uri:R.uri = T []
 loc:R.loc = T []
 val:R.val = T []
 ch:R.ch = ids F
 ats:R.ats = []
 nss:R.nss = []
theorem RootR.with {R:Row} {F G:Fo} {l:List Nat} (h:RootR R F) (e:l = ids G):RootR { R with ch:=l } G:=⟨h.1,h.2,h.3,h.4,h.5,e,h.7,h.8⟩
structure DInv (rows:List Row) (els:List Nat) (F:Fo) (t:Nat):Prop where
 root:∃ R,rows[0]? = some R /\ RootR R F
 chs:(ids F).length <= t
 rep:Rep rows 1 F
 ok:OkF false F
 first:isEl F = true
 elr:∀ p ∈ els,0 < p /\ ∃ r,rows[p]? = some r /\ r.kind = "element" /\ r.ch.length <= t /\ ∀ i ∈ r.ch,i < rows.length
 ne:els ≠ []
 nels:els.length <= t
 len:rows.length <= 1 + 10 * t
 size:cnt F <= 2 ^ t
section
variable {rows rows':List Row} {els:List Nat} {F g:Fo} {t p id:Nat} {r:Row}
theorem len_step (h:rows.length <= 1 + 10 * t) (l:rows'.length <= rows.length + 10):rows'.length <= 1 + 10 * (t + 1):=Nat.le_trans l (Nat.add_le_add_right h 10)
theorem DInv.child (D:DInv rows els F t) (hp:p ∈ els) (hr:rows[p]? = some r) (par:rows'[p]? = some { r with ch:=r.ch ++ ids g }) (keep:∀ i q,i ≠ p -> rows[i]? = some q -> rows'[i]? = some q) (mo:rows.length < rows'.length) (len:rows'.length <= rows.length + 10)
  (hg:Rep rows' 1 g) (h1:(ids g).length = 1) (h2:cnt g <= 1) (ok:OkF true g \/ OkF false g /\ (r.ch = [] \/ ∃ j q,r.ch.getLast? = some j /\ rows[j]? = some q /\ q.kind ≠ "text")):DInv rows' els (ins p g F) (t + 1):=by
 obtain ⟨R,hR,rr⟩:=D.root
 obtain ⟨p0,r',hr',kp,cp,qp⟩:=D.elr p hp
 rw [hr] at hr'; cases hr'
 refine ⟨⟨R,keep 0 R (Nat.ne_of_lt p0) hR,rr.with (by rw [ids_ins]; exact rr.6)⟩,by rw [ids_ins]; exact Nat.le_succ_of_le D.chs,Rep.ins hr par keep kp hg D.rep,OkF.ins hr (fun c hc ec => ?_) D.ok D.rep,by rw [isEl_ins]; exact D.first,fun x hx => ?_,D.ne,Nat.le_succ_of_le D.nels,len_step D.len len,?_⟩
 ·rcases ok with ok | ⟨ok,c1⟩
  ·exact ok.weak
  ·have:lastTx false c = false:=by
    rcases c1 with c1 | ⟨j,q,z1,z2,z3⟩
    ·rw [c1] at ec; rw [ids_nil ec]; rfl
    ·obtain ⟨j',q',y1,y2,y3⟩:=lastTx_row (b:=false) hc (by rw [ec]; intro z; rw [z] at z1; cases z1)
     rw [ec,z1] at y1; cases y1
     rw [z2] at y2; cases y2
     exact Bool.eq_false_iff.mpr fun z => z3 (y3.mpr z)
   rw [this]; exact ok
 ·obtain ⟨x0,rx,ex,kx,cx,qx⟩:=D.elr x hx
  by_cases c:x = p
  ·subst c
   rw [hr] at ex; cases ex
   exact ⟨x0,_,par,kx,by rw [List.length_append,h1]; exact Nat.succ_le_succ cx,fun i hi => (List.mem_append.mp hi).elim (fun hi => Nat.lt_trans (qx i hi) mo) (hg.lt i)⟩
  ·exact ⟨x0,rx,keep x rx c ex,kx,Nat.le_succ_of_le cx,fun i hi => Nat.lt_trans (qx i hi) mo⟩
 ·rw [Nat.pow_succ,Nat.mul_comm]; exact Nat.le_trans (cnt_ins h2) (Nat.mul_le_mul_left 2 D.size)
theorem DInv.more (D:DInv rows els F t) {e:Row} (hp:0 < id) (he:rows[id]? = some e) (hk:e.kind = "element") (hc:e.ch = []) (hn:els.length + 1 <= t):DInv rows (els ++ [id]) F t :=
 ⟨D.1,D.2,D.3,D.4,D.5,fun x hx => (List.mem_append.mp hx).elim (D.elr x) fun hx => by
  rw [List.mem_singleton.mp hx]
  exact ⟨hp,e,he,hk,by rw [hc]; exact Nat.zero_le _,by rw [hc]; exact fun _ h => nomatch h⟩,List.append_ne_nil_of_right_ne_nil _ (List.cons_ne_nil _ _),by rw [List.length_append]; exact hn,D.9,D.10⟩
theorem DInv.top (D:DInv rows els F t) (hr:rows[0]? = some r) (par:rows'[0]? = some { r with ch:=r.ch ++ ids g }) (keep:∀ i q,i ≠ 0 -> rows[i]? = some q -> rows'[i]? = some q) (mo:rows.length < rows'.length) (len:rows'.length <= rows.length + 10)
  (hg:Rep rows' 1 g) (h1:(ids g).length = 1) (h2:cnt g <= 1) (ok:OkF true g):DInv rows' els (F.app g) (t + 1):=by
 obtain ⟨R,hR,rr⟩:=D.root
 rw [hr] at hR; cases hR
 have nz:∀ {i:Nat},0 < i -> i ≠ 0:=fun h => Nat.ne_of_gt h
 refine ⟨⟨_,par,rr.with (by rw [ids_app,rr.6])⟩,by rw [ids_app,List.length_append,h1]; exact Nat.succ_le_succ D.chs,Rep.app hg (D.rep.mono fun i q l e => keep i q (nz l) e),OkF.app D.ok ok.weak,isEl_app D.first,fun x hx => ?_,D.ne,Nat.le_succ_of_le D.nels,len_step D.len len,?_⟩
 ·obtain ⟨x0,rx,ex,kx,cx,qx⟩:=D.elr x hx
  exact ⟨x0,rx,keep x rx (nz x0) ex,kx,Nat.le_succ_of_le cx,fun i hi => Nat.lt_trans (qx i hi) mo⟩
 ·rw [cnt_app,Nat.pow_succ,Nat.mul_two]
  exact Nat.add_le_add D.size (Nat.le_trans h2 (Nat.pow_pos (by decide)))
end
theorem sliceV_last (l:List V):sliceV l (some (-1)) none none = l.drop (l.length - 1):=by
 unfold sliceV sliceBounds sliceRange
 simp
 cases hl:l.length with
 | zero => rw [List.length_eq_zero_iff] at hl; subst hl; simp
 | succ m =>
  have e:max 0 (min (-1 + ((m + 1:Nat):Int)) ((m + 1:Nat):Int)) = m:=by lia
  rw [e,if_pos (by lia),show (((m + 1:Nat):Int) - (m:Int)).toNat = 1 by lia]
  have hm:m < l.length:=by lia
  simp [List.range_succ,List.getElem?_eq_getElem hm]
  rw [List.drop_eq_getElem_cons hm,List.drop_eq_nil_of_le (by lia)]
theorem slice_last {l:List V} {σ:St} (h:l.length < 1000):sliceF false (.lst l) (.int (-1)) .none .none σ = .ok (.lst (l.drop (l.length - 1))) σ:=by
 show (if (none:Option Int) ≠ some 0 /\ l.length <= big then okL false (sliceV l (some (-1)) none none) σ else .bad) = _
 rw [if_pos ⟨nofun,small_big h⟩,sliceV_last]
 exact okL_small (by rw [List.length_drop]; exact Nat.lt_of_le_of_lt (Nat.sub_le _ _) h)
noncomputable def dst (a b:Int) (rows:List Row) (els:List Nat):St:=[src a b,.pack (tree rows),.list (ivs els)]
section
variable {a b:Int} {rows rows':List Row} {els:List Nat} {σ σ':St}
theorem made_dst (m:Made (dst a b rows els) σ' 1 rows'):∃ a' b',σ' = dst a' b' rows' els /\ Src a' b':=by
 obtain ⟨⟨a',b',e,s⟩,t,c,rfl⟩:=m
 cases Option.some.inj e
 exact ⟨a',b',rfl,s⟩
theorem drawn_dst (d:Drawn (dst a b rows els) σ'):∃ a' b',σ' = dst a' b' rows els /\ Src a' b':=by
 obtain ⟨⟨a',b',e,s⟩,c,rfl⟩:=d
 cases Option.some.inj e
 exact ⟨a',b',rfl,s⟩
theorem at_dst (s:Src a b):At0 (dst a b rows els):=⟨a,b,rfl,s⟩
theorem is_dst (h:rows.length <= big):IsT (dst a b rows els) 1 rows:=⟨rfl,h⟩
theorem big_of {n:Nat} (h:n < 1000):n < big:=Nat.lt_trans h (by decide)
theorem lt_t {x y:Int} (h:x < y):cmpQ σ .Lt (.int x) (.int y) = some true:=congrArg some (decide_eq_true h)
theorem lt_f {x y:Int} (h:¬ x < y):cmpQ σ .Lt (.int x) (.int y) = some false:=congrArg some (decide_eq_false h)
theorem eqi_t {x y:Int} (h:x = y):cmpQ σ .Eq (.int x) (.int y) = some true:=congrArg some (decide_eq_true h)
theorem eqi_f {x y:Int} (h:¬ x = y):cmpQ σ .Eq (.int x) (.int y) = some false:=congrArg some (decide_eq_false h)
end
noncomputable def bodyT:CSs:=(.cons (.expr (.meth false (.var 1) "add_text" [(536,407)] .none (.cons (.var 5) (.cons (.fn 594 (.cons (.var 0) .nil) [] .nil) .nil)) [] .nil)) .nil)
noncomputable def bodyC:CSs:=(.cons (.expr (.meth false (.var 1) "add_comment" [(536,414)] .none (.cons (.var 5) (.cons (.fn 561 (.cons (.var 0) (.cons (.list false (.cons (.const (.str (T []))) (.cons (.const (.str (T [32,97,32,45,32,98,32]))) (.cons (.const (.str (T [60,38,62]))) .nil)))) .nil)) [] .nil) .nil)) [] .nil)) .nil)
noncomputable def bodyI:CSs:=(.cons (.expr (.meth false (.var 1) "add_instruction" [(536,421)] .none (.cons (.fn 561 (.cons (.var 0) (.cons (.list false (.cons (.var 2) (.cons (.var 5) .nil))) .nil)) [] .nil) (.cons (.const (.str (T [103,111]))) (.cons (.fn 561 (.cons (.var 0) (.cons (.list false (.cons (.const (.str (T []))) (.cons (.const (.str (T [97,61,34,49,34]))) (.cons (.const (.str (T [120,32,62,32,121]))) .nil)))) .nil)) [] .nil) .nil))) [] .nil)) .nil)
noncomputable def bodyD:CSs:=(.cons (.asg2 5 6 (.tup (.cons (.fn 561 (.cons (.var 0) (.cons (.var 3) .nil)) [] .nil) (.cons (.fn 554 (.cons (.var 0) (.cons (.const (.int 6)) .nil)) [] .nil) .nil)))) (.cons (.asg 7 (.slice false (.meth false (.var 1) "children" [(536,498)] .none (.cons (.var 5) .nil) [] .nil) (.neg (.const (.int 1))) (.const (.none)) (.const (.none)))) (.cons (.ite (.cmp (.var 6) [.Lt] (.cons (.const (.int 2)) .nil)) (.cons (.expr (.meth false (.var 3) "append" [] (some .append) (.cons (.fn 608 (.cons (.var 0) (.cons (.var 1) (.cons (.var 5) .nil))) [] .nil) .nil) [] .nil)) .nil) (.cons (.ite (.and (.cmp (.var 6) [.Lt] (.cons (.const (.int 4)) .nil)) (.and (.or (.cmp (.var 7) [.Eq] (.cons (.list false .nil) .nil)) (.or (.cmp (.meth false (.var 1) "kind" [(536,456)] .none (.cons (.sub (.var 7) (.const (.int 0))) .nil) [] .nil) [.NotEq] (.cons (.const (.str "text")) .nil)) (.const (.bool false)))) (.const (.bool true)))) bodyT (.cons (.ite (.cmp (.var 6) [.Eq] (.cons (.const (.int 4)) .nil)) bodyC bodyI) .nil)) .nil)) .nil)))
section
variable {wf n:Nat} {rows:List Row} {els:List Nat} {F:Fo} {t p:Nat} {a b:Int} {r:Row} {P:PX} {N:KN} {x4 x5 x6 x7:Option V}
noncomputable abbrev frD (x4 x5 x6 x7:Option V):Fr:=[some (.ref 0),some (.ref 1),some (iv 0),some (.ref 2),x4,x5,x6,x7]
theorem leafR (k:Leaf):LeafR (leafRow k (some p)) k:=by cases k <;> rfl
theorem rep_new {k:Leaf} {rows':List Row} (h:0 < rows.length) (e:rows'[rows.length]? = some (leafRow k (some p))):Rep rows' 1 (.lf rows.length k .nil):=⟨⟨h,_,e,leafR k⟩,trivial⟩
theorem D_leaf (k:Leaf) (D:DInv rows els F t) (hp:p ∈ els) (hr:rows[p]? = some r) (ok:OkK k) (c:k.isTx = true -> r.ch = [] \/ ∃ j q,r.ch.getLast? = some j /\ rows[j]? = some q /\ q.kind ≠ "text"):DInv (kid rows p r (leafRow k (some p))) els (ins p (.lf rows.length k .nil) F) (t + 1):=by
 have rp:=lt_of_get hr
 refine D.child hp hr (put_at rp) (fun i q hi e => put_keep hi e) (by rw [kid_len]; exact Nat.lt_succ_self _) (by rw [kid_len]; exact Nat.add_le_add_left (by decide) _) (rep_new (Nat.zero_lt_of_lt rp) (put_new rp)) rfl (Nat.le_refl 1) ?_
 cases h:k.isTx with
 | true => exact .inr ⟨⟨ok,nofun,trivial⟩,c h⟩
 | false => exact .inl ⟨ok,fun _ => h,trivial⟩
theorem D_leaf0 (k:Leaf) (D:DInv rows els F t) (hr:rows[0]? = some r) (ok:OkK k) (c:k.isTx = false):DInv (kid rows 0 r (leafRow k (some 0))) els (F.app (.lf rows.length k .nil)) (t + 1):=by
 have rp:=lt_of_get hr
 exact D.top hr (put_at rp) (fun i q hi e => put_keep hi e) (by rw [kid_len]; exact Nat.lt_succ_self _) (by rw [kid_len]; exact Nat.add_le_add_left (by decide) _) (rep_new rp (put_new rp)) rfl (Nat.le_refl 1) ⟨ok,fun _ => c,trivial⟩
noncomputable def Go (wf n:Nat) (P:PX) (N:KN) (t:Nat):Prop:=∀ rows els F a b x4 x5 x6 x7,Src a b -> DInv rows els F t -> N ⟨cx1 wf (n + 6),P⟩ (frD x4 x5 x6 x7) (dst a b rows els)
theorem appD {i:Nat} (h:els.length < 1000):bmF false .append (.ref 2) [iv i] (dst a b rows els) = .ok .none (dst a b rows (els ++ [i])):=by
 rw [append_ref (k:=2) (l:=ivs els) rfl (by rw [ivs_len]; exact big_of h),<- ivs_app]; rfl
theorem turnT (s:Src a b) (D:DInv rows els F t) (hp:p ∈ els) (hr:rows[p]? = some r) (kr:r.kind = "element") (rb:rows.length < big) (cb:r.ch.length < big) (c:r.ch = [] \/ ∃ j q,r.ch.getLast? = some j /\ rows[j]? = some q /\ q.kind ≠ "text") (kk:Go wf n P N (t + 1)) :
  evSs bodyT ⟨cx1 wf (n + 6),P⟩ (frD x4 (some (iv p)) x6 x7) (dst a b rows els) N :=
 elo_ok (psel (is_dst (Nat.le_of_lt rb)) (by kernel_rfl)) (.mk (words_ok (at_dst s) fun v σ3 hv d3 => by
  obtain ⟨a3,b3,rfl,s3⟩:=drawn_dst d3
  exact ca_ok (ptext (is_dst (Nat.le_of_lt rb)) hr (.inr kr) rb cb) (kk _ _ _ _ _ _ _ _ _ s3 (D_leaf (.tx v) D hp hr hv fun _ => c))))
theorem turnCy (s:Src a b) (D:DInv rows els F t) (hp:p ∈ els) (hr:rows[p]? = some r) (kr:r.kind = "element") (rb:rows.length < big) (cb:r.ch.length < big) (kk:Go wf n P N (t + 1)) :
  evSs bodyC ⟨cx1 wf (n + 6),P⟩ (frD x4 (some (iv p)) x6 x7) (dst a b rows els) N :=
 elo_ok (psel (is_dst (Nat.le_of_lt rb)) (by kernel_rfl)) (.mk (one_d (l:=cmMenu.map fun p => .str (T p)) (at_dst s) (by decide) (by decide) fun v σ3 hv d3 => by
  obtain ⟨w,hw,rfl⟩:=List.mem_map.mp hv
  obtain ⟨a3,b3,rfl,s3⟩:=drawn_dst d3
  exact ca_ok (pcomment (is_dst (Nat.le_of_lt rb)) hr (.inr kr) rb cb) (kk _ _ _ _ _ _ _ _ _ s3 (D_leaf (.cm w) D hp hr hw nofun))))
theorem turnI (s:Src a b) (D:DInv rows els F t) (ht:t <= 20) (hp:p ∈ els) (hr:rows[p]? = some r) (kr:r.kind = "element") (rb:rows.length < big) (cb:r.ch.length < big) (kk:Go wf n P N (t + 1)) :
  evSs bodyI ⟨cx1 wf (n + 6),P⟩ (frD x4 (some (iv p)) x6 x7) (dst a b rows els) N:=by
 refine elo_ok (psel (is_dst (Nat.le_of_lt rb)) (by kernel_rfl)) (.mk (one_d (l:=[iv 0,iv p]) (at_dst s) nofun (show 2 < 1000 by decide) fun v σ3 hv d3 => ?_))
 obtain ⟨a3,b3,rfl,s3⟩:=drawn_dst d3
 refine Ca.mk (one_d (l:=piMenu.map fun p => .str (T p)) (at_dst s3) (by decide) (by decide) fun d σ4 hd d4 => ?_)
 obtain ⟨a4,b4,rfl,s4⟩:=drawn_dst d4
 obtain ⟨d,hd',rfl⟩:=List.mem_map.mp hd
 rcases List.mem_cons.mp hv with rfl | hv
 ·obtain ⟨R,hR,rr⟩:=D.root
  exact ca_ok (pinstr (is_dst (Nat.le_of_lt rb)) hR (.inl rr.kind) rb (by rw [rr.ch]; exact big_of (Nat.lt_of_le_of_lt D.chs (Nat.lt_of_le_of_lt ht (by decide))))) (kk _ _ _ _ _ _ _ _ _ s4 (D_leaf0 (.pi [103,111] d) D hR ⟨rfl,hd'⟩ rfl))
 ·rw [List.mem_singleton.mp hv]
  exact ca_ok (pinstr (is_dst (Nat.le_of_lt rb)) hr (.inr kr) rb cb) (kk _ _ _ _ _ _ _ _ _ s4 (D_leaf (.pi [103,111] d) D hp hr ⟨rfl,hd'⟩ nofun))
theorem drop_last {l:List Nat} {i:Nat}:(ivs (l ++ [i])).drop ((ivs (l ++ [i])).length - 1) = [iv i]:=by
 rw [ivs_app,List.length_append]
 show List.drop ((ivs l).length + 1 - 1) _ = _
 rw [Nat.add_sub_cancel,List.drop_left]
theorem turnD {j:V} (s:Src a b) (D:DInv rows els F t) (ht:t <= 20) (kk:Go wf n P N (t + 1)):B1 4 bodyD j ⟨cx1 wf (n + 6),P⟩ (frD x4 x5 x6 x7) (dst a b rows els) N:=by
 have rb3:rows.length <= 201:=Nat.le_trans D.len (Nat.add_le_add_left (Nat.mul_le_mul_left 10 ht) 1)
 have rb:rows.length < big:=Nat.lt_of_le_of_lt rb3 (by decide)
 have rb':=Nat.le_of_lt rb
 have nl:els.length < 1000:=Nat.lt_of_le_of_lt D.nels (Nat.lt_of_le_of_lt ht (by decide))
 refine Ca.mk (one_r (l:=ivs els) (by decide) rfl (at_dst s) (fun h => D.ne (List.map_eq_nil_iff.mp h)) (by rw [ivs_len]; exact nl) fun v σ1 hv d1 => ?_)
 obtain ⟨p,hp,rfl⟩:=List.mem_map.mp hv
 refine Ca.mk (take_d d1.1 (by decide) (by decide) fun w σ2 hw d2 => ?_)
 obtain ⟨a2,b2,rfl,s2⟩:=drawn_dst (d1.trans d2)
 obtain ⟨p0,r,hr,kr,cr,qr⟩:=D.elr p hp
 have rc:r.ch.length < 1000:=Nat.lt_of_le_of_lt cr (Nat.lt_of_le_of_lt ht (by decide))
 have cb:=big_of rc
 have T2:=is_dst (a:=a2) (b:=b2) (els:=els) rb'
 refine elo_ok (psel T2 (by kernel_rfl)) (ca_ok (pch T2 hr (Nat.le_of_lt cb)) (el_ok (slice_last (by rw [ivs_len]; exact rc)) ?_))
 by_cases c1:(w:Int) < 2
 ·refine elo_ok (lt_t c1) (br_t rfl (elo_ok (selF_append (l:=ivs els) rfl) (.mk (element_ok (by decide) (at_dst s2) T2 hr (.inr kr) (Nat.lt_of_le_of_lt (Nat.add_le_add_right rb3 10) (by decide)) cb fun rows3 h3 σ3 M3 E3 O3 l3 => ?_))))
  obtain ⟨a3,b3,rfl,s3⟩:=made_dst M3
  obtain ⟨e,he,H,hpar⟩:=E3.el
  have r0:0 < rows.length:=Nat.zero_lt_of_lt (lt_of_get hr)
  have D3:=D.child (rows':=rows3) (g:=.el rows.length h3 .nil .nil) hp hr E3.par E3.keep E3.lt E3.le ⟨⟨r0,e,he,H.weak r0⟩,trivial,trivial⟩ rfl (Nat.le_refl 1) (.inl ⟨⟨O3,l3⟩,trivial,trivial⟩)
  exact el_ok (appD nl) (kk _ _ _ _ _ _ _ _ _ s3 (D3.more r0 he H.1 H.6 (Nat.succ_le_succ D.nels)))
 ·refine elo_ok (lt_f c1) (br_f rfl ?_)
  by_cases c2:(w:Int) < 4
  ·refine elo_ok (lt_t c2) (br_t rfl ?_)
   rcases List.eq_nil_or_concat r.ch with h | ⟨l,i,h⟩
   ·rw [h]
    exact elo_ok (a:=true) rfl (br_t rfl (br_t rfl (br_t rfl (turnT s2 D hp hr kr rb cb (.inl h) kk))))
   ·rw [List.concat_eq_append] at h
    have hl:r.ch.getLast? = some i:=by rw [h]; exact List.getLast?_concat
    have hq:=List.getElem?_eq_getElem (qr i (by rw [h]; exact List.mem_concat_self))
    have c4:¬ (w:Int) = 4:=fun h => absurd c2 (by rw [h]; decide)
    rw [show (ivs r.ch).drop ((ivs r.ch).length - 1) = [iv i] by rw [h]; exact drop_last]
    refine elo_ok (a:=false) rfl (br_f rfl (elo_ok (psel T2 (by kernel_rfl)) (elo_ok (a:=iv i) rfl (ca_ok (pkind T2 hq) ?_))))
    by_cases kt:(rows[i]'(qr i (by rw [h]; exact List.mem_concat_self))).kind = "text"
    ·exact elo_ok (nes_f kt) (br_f rfl (br_f rfl (br_f rfl (elo_ok (eqi_f c4) (br_f rfl (turnI s2 D ht hp hr kr rb cb kk))))))
    ·exact elo_ok (nes_t kt) (br_t rfl (br_t rfl (br_t rfl (turnT s2 D hp hr kr rb cb (.inr ⟨i,_,hl,hq,kt⟩) kk))))
  ·refine elo_ok (lt_f c2) (br_f rfl (br_f rfl ?_))
   by_cases c4:(w:Int) = 4
   ·exact elo_ok (eqi_t c4) (br_t rfl (turnCy s2 D hp hr kr rb cb kk))
   ·exact elo_ok (eqi_f c4) (br_f rfl (turnI s2 D ht hp hr kr rb cb kk))
theorem loopD (is:List Nat):∀ (x4 x5 x6 x7:Option V) (rows:List Row) (els:List Nat) (F:Fo) (t:Nat) (a b:Int),Src a b -> DInv rows els F t -> t + is.length <= 20 -> Go wf n P N (t + is.length) ->
  forP (fun _ => true) (B1 4 bodyD) (ivs is) ⟨cx1 wf (n + 6),P⟩ (frD x4 x5 x6 x7) (dst a b rows els) N:=by
 induction is with
 | nil => exact fun x4 x5 x6 x7 rows els F t a b s D _ kk => ⟨rfl,kk _ _ _ _ _ _ _ _ _ s D⟩
 | cons i is ih =>
  intro x4 x5 x6 x7 rows els F t a b s D ht kk
  rw [List.length_cons,<- Nat.add_assoc,Nat.add_right_comm] at ht kk
  exact ⟨rfl,turnD s D (Nat.le_trans (Nat.le_trans (Nat.le_succ t) (Nat.le_add_right _ _)) ht) fun _ _ _ _ _ _ _ _ _ s1 D1 => ih _ _ _ _ _ _ _ _ _ _ s1 D1 ht kk⟩
theorem dropT {σ σ':St} {v:V} (h:σ.length <= σ'.length /\ v.closed σ.length = true /\ (σ'.take σ.length).all (Cell.closed σ.length) = true):dropF true σ v σ' = σ'.take σ.length:=if_pos h
theorem drop_doc {a' b':Int}:dropF true [src a b,.pack (tree [])] (iv 0) (dst a' b' rows els) = [src a' b',.pack (tree rows)]:=dropT ⟨(by decide:2 <= 3),rfl,rfl⟩
theorem document_ok {K:V -> St -> Prop} {X:Addr -> St -> Prop} (s:Src a b) (kk:∀ rows els F a' b' t,Src a' b' -> DInv rows els F t -> t <= 8 -> K (iv 0) [src a' b',.pack (tree rows)]):R1 wf (n + 7) 615 [.ref 0,.ref 1] [] [src a b,.pack (tree [])] K X:=by
 have T0:IsT [src a b,.pack (tree [])] 1 []:=⟨rfl,Nat.zero_le _⟩
 refine r1_of rfl rfl fun P hR _ => elo_ok (psel T0 (by kernel_rfl)) (ca_ok (proot T0 (big_of (by decide))) ?_)
 have T1:IsT [src a b,.pack (tree [⟨"root",T [],T [],T [],T [],none,[],[],[]⟩])] 1 [⟨"root",T [],T [],T [],T [],none,[],[],[]⟩]:=⟨rfl,(by decide:1 <= big)⟩
 refine Ca.mk (element_ok (p:=0) (by decide) ⟨a,b,rfl,s⟩ T1 rfl (.inl rfl) (by decide:1 + 10 < big) (by decide:0 < big) fun rows1 h1 σ1 M1 E1 O1 l1 => ?_)
 obtain ⟨⟨a1,b1,z1,s1⟩,t1,c,rfl⟩:=M1
 cases Option.some.inj z1
 obtain ⟨e,he,H,hpar⟩:=E1.el
 have D1:DInv rows1 [1] (.el 1 h1 .nil .nil) 1:=⟨⟨_,E1.par,⟨rfl,rfl,rfl,rfl,rfl,rfl,rfl,rfl⟩⟩,Nat.le_refl 1,⟨⟨Nat.le_refl 1,e,he,H⟩,trivial,trivial⟩,⟨⟨O1,l1⟩,trivial,trivial⟩,rfl,fun p hp => by
  rw [List.mem_singleton.mp hp]
  exact ⟨Nat.one_pos,e,he,H.1,by rw [H.6]; exact Nat.zero_le _,by rw [H.6]; exact fun _ h => nomatch h⟩,List.cons_ne_nil _ _,Nat.le_refl 1,E1.le,(by decide:1 <= 2)⟩
 have go:evSs (.cons (.for1 4 (.bf false .range (.cons (.bin false .Add (.const (.int 1)) (.fn 554 (.cons (.var 0) (.cons (.const (.int 7)) .nil)) [] .nil)) .nil)) bodyD) (.cons (.ret (.var 2)) .nil)) ⟨cx1 wf (n + 6),P⟩ (frD none none none none) (dst a1 b1 rows1 [1]) endN:=by
  refine Ca.mk (take_d (at_dst s1) (by decide) (by decide) fun d σ2 hd dr => ?_)
  obtain ⟨a2,b2,rfl,s2⟩:=drawn_dst dr
  have hd:d + 1 <= 7:=Int.ofNat_lt.mp hd
  have q:1 + (List.range (d + 1)).length <= 8:=by rw [List.length_range]; exact Nat.add_le_add_left hd 1
  have c1:(1:Int) + (d:Int) = ((d + 1:Nat):Int):=Int.add_comm _ _
  have sm:d + 1 <= big:=Nat.le_trans hd (by decide)
  refine el_ok add_ok ?_
  rw [c1]
  refine el_ok (range_n sm) (elo_ok (items_n sm) (loopD (List.range (d + 1)) _ _ _ _ _ _ _ 1 _ _ s2 D1 ?_ fun rows3 els3 F3 a3 b3 _ _ _ _ s3 D3 => hR _ _ (by rw [drop_doc]; exact kk _ _ _ _ _ _ s3 D3 q)))
  ·exact Nat.le_trans q (by decide)
 exact go
end
noncomputable def escT (c:Nat):Tx:=if c = 38 then [38,97,109,112,59] else if c = 60 then [38,108,116,59] else if c = 62 then [38,103,116,59] else if c = 13 then [38,35,49,51,59] else [c]
noncomputable def escV (c:Nat):Tx:=if c = 38 then [38,97,109,112,59] else if c = 60 then [38,108,116,59] else if c = 34 then [38,113,117,111,116,59] else if c = 9 then [38,35,57,59] else if c = 10 then [38,35,49,48,59] else if c = 13 then [38,35,49,51,59] else [c]
noncomputable def lfT:Leaf -> Tx
 | .tx v => v.flatMap escT
 | .cm v => [60,33,45,45] ++ v ++ [45,45,62]
 | .pi t d => [60,63] ++ t ++ (if d = [] then [] else 32 :: d) ++ [63,62]
theorem line_of {n:Nat} (h:n < 1000):n <= sizeLine:=Nat.le_trans (Nat.le_of_lt (big_of h)) big_line
theorem ne1 {c d:Nat} (h:¬ c = d):T [c] ≠ T [d]:=fun e => h (List.head_eq_of_cons_eq (T_inj.mp e))
section
variable {wf n:Nat} {σ:St} {c:Nat} {mk:Bool}
theorem chain {a:Nat} {b:Tx} {rest:CSs} {e:EE} {N:KN} (h1:c = a -> e.P.ret (.str (T b)) σ) (h2:¬ c = a -> evSs rest e [some (.str (T [c]))] σ N) :
  evSs (.cons (.ite (.cmp (.var 0) [.Eq] (.cons (.const (.str (T [a]))) .nil)) (.cons (.ret (.const (.str (T b)))) .nil) .nil) rest) e [some (.str (T [c]))] σ N:=by
 by_cases h:c = a
 ·exact elo_ok (eqs_t (congrArg (fun c => T [c]) h)) (br_t rfl (h1 h))
 ·exact elo_ok (eqs_f (ne1 h)) (br_f rfl (h2 h))
theorem escT_ok:Ok (R1 wf (n + 1) 72 [.str (T [c])] [] σ) (.str (T (escT c))) σ:=by
 refine ok_r1 rfl rfl fun P kk => ?_
 unfold escT at kk
 exact chain (fun h => by rw [if_pos h] at kk; exact kk) fun h1 => chain (fun h => by rw [if_neg h1,if_pos h] at kk; exact kk) fun h2 => chain (fun h => by rw [if_neg h1,if_neg h2,if_pos h] at kk; exact kk) fun h3 =>
  chain (fun h => by rw [if_neg h1,if_neg h2,if_neg h3,if_pos h] at kk; exact kk) fun h4 => by rw [if_neg h1,if_neg h2,if_neg h3,if_neg h4] at kk; exact kk
theorem ord_one:bfF mk .ord [.str (T [c])] σ = .ok (.int c) σ:=rfl
theorem in_one {x:Tx}:cmpQ σ .In (.str (T [c])) (.str (T x)) = some (decide (c ∈ x)):=congrArg some sIn_one
theorem add_T {a b:Tx} (h:(a ++ b).length < 1000):binF mk .Add (.str (T a)) (.str (T b)) σ = .ok (.str (T (a ++ b))) σ:=by
 show okS (T a ++ T b) σ = _
 rw [T_append]; exact okS_ok (by rw [T_length]; exact line_of h)
theorem escV_ok:Ok (R1 wf (n + 1) 79 [.str (T [c])] [] σ) (.str (T (escV c))) σ:=by
 have s9:bfF false .str [.int (9:Nat)] σ = .ok (.str (T [57])) σ:=by kernel_rfl
 have s10:bfF false .str [.int (10:Nat)] σ = .ok (.str (T [49,48])) σ:=by kernel_rfl
 have s13:bfF false .str [.int (13:Nat)] σ = .ok (.str (T [49,51])) σ:=by kernel_rfl
 refine ok_r1 rfl rfl fun P kk => ?_
 unfold escV at kk
 refine chain (fun h => by rw [if_pos h] at kk; exact kk) fun h1 => chain (fun h => by rw [if_neg h1,if_pos h] at kk; exact kk) fun h2 => chain (fun h => by rw [if_neg h1,if_neg h2,if_pos h] at kk; exact kk) fun h3 => elo_ok in_one ?_
 rw [if_neg h1,if_neg h2,if_neg h3] at kk
 by_cases c4:c = 9
 ·subst c4; exact br_t rfl (el_ok ord_one (el_ok s9 (el_ok (add_T (by decide)) (el_ok (add_T (by decide)) kk))))
 rw [if_neg c4] at kk
 by_cases c5:c = 10
 ·subst c5; exact br_t rfl (el_ok ord_one (el_ok s10 (el_ok (add_T (by decide)) (el_ok (add_T (by decide)) kk))))
 rw [if_neg c5] at kk
 by_cases c6:c = 13
 ·subst c6; exact br_t rfl (el_ok ord_one (el_ok s13 (el_ok (add_T (by decide)) (el_ok (add_T (by decide)) kk))))
 rw [if_neg c6] at kk
 exact br_f (decide_eq_false fun h => (List.mem_cons.mp h).elim c4 fun h => (List.mem_cons.mp h).elim c5 fun h => c6 (List.mem_singleton.mp h)) kk
theorem esc_go {f:Addr} {esc:Nat -> Tx} {P:PX} {fr:Fr} {K:List V -> EE -> Fr -> St -> Prop} (hf:∀ c σ,Ok (R1 wf n f [.str (T [c])] [] σ) (.str (T (esc c))) σ) (cs:Tx):∀ (acc:List Tx),acc.length + cs.length < 1000 -> K ((acc ++ cs.map esc).map fun p => .str (T p)) ⟨cx1 wf n,P⟩ fr σ ->
  compP (fun _ => true) (fun x σ R => ev (.fn f (.cons (.var 0) .nil) [] .nil) (EE.to ⟨cx1 wf n,P⟩ fun y σ => R (some y) σ) [some x] σ retN) (cs.map fun c => .str (T [c])) (acc.map fun p => .str (T p)) ⟨cx1 wf n,P⟩ fr σ K:=by
 induction cs with
 | nil => exact fun acc _ k => ⟨rfl,by rwa [List.map_nil,List.append_nil] at k⟩
 | cons c cs ih =>
  intro acc h k
  have:=ih (acc ++ [esc c]) (by rw [List.length_append,Nat.add_assoc,Nat.add_comm [esc c].length]; exact h) (by rw [List.append_assoc]; exact k)
  rw [List.map_append] at this
  exact ⟨⟨rfl,by rw [List.length_map]; exact Nat.le_of_lt (big_of (Nat.lt_of_le_of_lt (Nat.le_add_right _ _) h))⟩,ca_ok (hf c σ) this⟩
theorem esc_len {esc:Nat -> Tx} (h:∀ c,(esc c).length <= 6) (v:Tx):(v.flatMap esc).length <= 6 * v.length:=by
 induction v with
 | nil => exact Nat.le_refl _
 | cons c v ih => rw [List.flatMap_cons,List.length_append,List.length_cons,Nat.mul_succ,Nat.add_comm]; exact Nat.add_le_add ih (h c)
theorem ite_len {c:Prop} [Decidable c] {a b:Tx} (ha:a.length <= 6) (hb:b.length <= 6):(if c then a else b).length <= 6:=by split <;> assumption
theorem escT_len (c:Nat):(escT c).length <= 6:=ite_len (by decide) (ite_len (by decide) (ite_len (by decide) (ite_len (by decide) (Nat.le_of_sub_eq_zero rfl))))
theorem escV_len (c:Nat):(escV c).length <= 6:=ite_len (by decide) (ite_len (by decide) (ite_len (by decide) (ite_len (by decide) (ite_len (by decide) (ite_len (by decide) (Nat.le_of_sub_eq_zero rfl))))))
theorem esc_body {f:Addr} {esc:Nat -> Tx} {P:PX} {v:Tx} (hf:∀ c σ,Ok (R1 wf n f [.str (T [c])] [] σ) (.str (T (esc c))) σ) (hl:∀ c,(esc c).length <= 6) (h:v.length <= 100) (kk:P.ret (.str (T (v.flatMap esc))) σ) :
  evSs (.cons (.ret (.meth false (.const (.str (T []))) "join" [] (some .join) (.cons (.comp false (.var 0) [] (.fn f (.cons (.var 0) .nil) [] .nil)) .nil) [] .nil)) .nil) ⟨cx1 wf n,P⟩ [some (.str (T v))] σ endN:=by
 have l6:(v.flatMap esc).length <= big:=Nat.le_trans (esc_len hl v) (Nat.le_trans (Nat.mul_le_mul_left 6 h) (by decide))
 rw [List.flatMap_def] at l6 kk
 have lv:v.length < 1000:=Nat.lt_of_le_of_lt h (by decide)
 refine elo_ok rfl (elo_ok (a:=v.map fun c => V.str (T [c])) rfl (esc_go hf v [] (by rw [List.length_nil,Nat.zero_add]; exact lv) ?_))
 rw [List.nil_append]
 exact el_ok (okL_small (by rw [List.length_map,List.length_map]; exact lv)) (el_ok (join_lst l6) kk)
theorem escaped_text {v:Tx} (h:v.length <= 100):Ok (R1 wf (n + 2) 84 [.str (T v)] [] σ) (.str (T (v.flatMap escT))) σ:=ok_r1 rfl rfl fun P kk => esc_body (fun _ _ => escT_ok) escT_len h kk
theorem escaped_value {v:Tx} (h:v.length <= 100):Ok (R1 wf (n + 2) 89 [.str (T v)] [] σ) (.str (T (v.flatMap escV))) σ:=ok_r1 rfl rfl fun P kk => esc_body (fun _ _ => escV_ok) escV_len h kk
theorem prefix_of {x:Tx} (h:x.length < 100):Ok (R1 wf (n + 1) 96 [.str (T x)] [] σ) (.str (T (pfx x))) σ:=by
 have l9:x.length < 900:=Nat.lt_trans h (by decide)
 refine ok_r1 rfl rfl fun P kk => elo_ok ncolon ?_
 by_cases c:58 ∈ x
 ·exact br_t (decide_eq_true c) (elo_ok rfl (el_ok (nsplit l9) (elo_ok (nfirst l9 c) kk)))
 ·rw [pfx,if_neg c] at kk
  exact br_f (decide_eq_false c) kk
theorem slice_str {x:Str} {l:Int} (h:x.length <= sizeLine):sliceF mk (.str x) (.int l) .none .none σ = .ok (.str (Txt.slice x (some l) none)) σ:=if_pos ⟨rfl,h⟩
theorem menu3 {α:Type} {p:α -> Prop} {a b c:α} (ha:p a) (hb:p b) (hc:p c):∀ x ∈ [a,b,c],p x:=fun x h => by
 rcases List.mem_cons.mp h with rfl | h
 ·exact ha
 ·rcases List.mem_cons.mp h with rfl | h
  ·exact hb
  ·rw [List.mem_singleton.mp h]; exact hc
theorem comment_ok {v:Tx} (h:v ∈ cmMenu):Ok (R1 wf (n + 1) 103 [.str (T v)] [] σ) (.str (T (lfT (.cm v)))) σ:=by
 obtain ⟨h1,h2,h3⟩:=menu3 (p:=fun v => sIn (T [45,45]) (T v) = false /\ (Txt.slice (T v) (some (-1)) none == T [45]) = false /\ v.length <= 10) ⟨by kernel_rfl,by kernel_rfl,by decide⟩ ⟨by kernel_rfl,by kernel_rfl,by decide⟩ ⟨by kernel_rfl,by kernel_rfl,by decide⟩ v h
 have l1:([60,33,45,45] ++ v).length <= 14:=by rw [List.length_append]; exact Nat.add_le_add_left h3 4
 exact ok_r1 rfl rfl fun P kk => elo_ok (congrArg some h1) (br_f rfl (el_ok (slice_str (by rw [T_length]; exact line_of (Nat.lt_of_le_of_lt h3 (by decide)))) (elo_ok (eqs_f (sne h2)) (br_f rfl (br_f rfl (el_ok (add_T (Nat.lt_of_le_of_lt l1 (by decide))) (el_ok (add_T (by rw [List.length_append]; exact Nat.lt_of_le_of_lt (Nat.add_le_add_right l1 _) (by decide))) kk)))))))
theorem instr_ok {d:Tx} (h:d ∈ piMenu):Ok (R1 wf (n + 1) 110 [.str (T [103,111]),.str (T d)] [] σ) (.str (T (lfT (.pi [103,111] d)))) σ:=by
 obtain ⟨h1,h3⟩:=menu3 (p:=fun v => sIn (T [63,62]) (T v) = false /\ v.length <= 10) ⟨by kernel_rfl,by decide⟩ ⟨by kernel_rfl,by decide⟩ ⟨by kernel_rfl,by decide⟩ d h
 refine ok_r1 rfl rfl fun P kk => elo_ok (congrArg some h1) (br_f rfl (el_ok (add_T (by decide)) ?_))
 change P.ret (.str (T ([60,63] ++ [103,111] ++ (if d = [] then [] else 32 :: d) ++ [63,62]))) σ at kk
 by_cases c:d = []
 ·subst c
  exact elo_ok (nes_f rfl) (br_f rfl (el_ok (add_T (by decide)) (el_ok (add_T (by decide)) kk)))
 ·rw [if_neg c] at kk
  have l1:([60,63,103,111] ++ 32 :: d).length <= 15:=by rw [List.length_append]; exact Nat.add_le_add_left (Nat.succ_le_succ h3) 4
  exact elo_ok (nes_t fun h => c (T_inj.mp h)) (br_t rfl (el_ok (add_T (a:=[32]) (Nat.lt_of_le_of_lt (Nat.succ_le_succ h3) (by decide))) (el_ok (add_T (Nat.lt_of_le_of_lt l1 (by decide))) (el_ok (add_T (by rw [List.length_append]; exact Nat.lt_of_le_of_lt (Nat.add_le_add_right l1 _) (by decide))) kk))))
theorem comment_no:Xc (R1 wf (n + 1) 103 [.str (T [97,45,45,98])] [] σ) 63 σ:=xc_r1 rfl rfl fun P kx => elo_ok (a:=true) (by kernel_rfl) (br_t rfl (br_t rfl (kx _)))
theorem instr_no:Xc (R1 wf (n + 1) 110 [.str (T [103,111]),.str (T [97,63,62])] [] σ) 63 σ:=xc_r1 rfl rfl fun P kx => elo_ok (a:=true) (by kernel_rfl) (br_t rfl (kx _))
end
noncomputable abbrev Pr:=Tx × Tx
noncomputable abbrev Sp:=List Pr
noncomputable def put:Sp -> Tx -> Tx -> Sp
 | [],p,u => [(p,u)]
 | (q,w) :: r,p,u => if q = p then (q,u) :: r else (q,w) :: put r p u
noncomputable def get (s:Sp) (p:Tx):Option Tx:=s.lookup p
noncomputable def puts (s:Sp) (l:List Pr):Sp:=l.foldl (fun s p => put s p.1 p.2) s
noncomputable def scL (s:Sp):List (Str × V):=s.map fun p => (T p.1,V.str (T p.2))
theorem upd_scL:∀ {s:Sp} {p u:Tx},upd (scL s) (T p) (.str (T u)) = scL (put s p u)
 | [],_,_ => rfl
 | (q,w) :: r,p,u => by
  simp only [scL,List.map_cons,upd,put,T_inj]
  split
  ·simp
  ·rw [List.map_cons]
   congr 1
   exact upd_scL (s:=r)
theorem lookup_scL:∀ {s:Sp} {p:Tx},(scL s).lookup (T p) = (get s p).map fun u => V.str (T u)
 | [],_ => rfl
 | (q,w) :: r,p => by
  simp only [scL,List.map_cons,get,List.lookup,T_beq]
  by_cases c:p = q
  ·subst c; simp
  ·have:(p == q) = false:=beq_eq_false_iff_ne.mpr c
   rw [this,decide_eq_false c]
   exact lookup_scL (s:=r)
theorem get_put {p u q:Tx}:∀ {s:Sp},get (put s p u) q = if q = p then some u else get s q
 | [] => by
  simp only [put,get,List.lookup]
  by_cases c:q = p
  ·subst c; simp
  ·have:(q == p) = false:=beq_eq_false_iff_ne.mpr c
   rw [this,if_neg c]
 | (x,w) :: r => by
  have ih:=get_put (p:=p) (u:=u) (q:=q) (s:=r)
  unfold put
  split
  ·rename_i h; subst h
   simp only [get,List.lookup]
   by_cases c:q = x
   ·subst c; simp
   ·have:(q == x) = false:=beq_eq_false_iff_ne.mpr c
    rw [this,if_neg c]
  ·rename_i h
   simp only [get,List.lookup] at ih ⊢
   by_cases c:q = x
   ·subst c; simp; exact fun e => absurd e h
   ·have:(q == x) = false:=beq_eq_false_iff_ne.mpr c
    rw [this]; exact ih
theorem put_len {p u:Tx}:∀ {s:Sp},(put s p u).length <= s.length + 1
 | [] => by simp [put]
 | (x,w) :: r => by
  have:=put_len (p:=p) (u:=u) (s:=r)
  unfold put
  split <;> simp; omega
theorem puts_len:∀ {l:List Pr} {s:Sp},(puts s l).length <= s.length + l.length
 | [],_ => by simp [puts]
 | p :: l,s => by
  have h1:=puts_len (l:=l) (s:=put s p.1 p.2)
  have h2:=put_len (p:=p.1) (u:=p.2) (s:=s)
  show (puts (put s p.1 p.2) l).length <= _
  rw [List.length_cons]; lia
theorem puts_app {l m:List Pr} {s:Sp}:puts s (l ++ m) = puts (puts s l) m:=by simp [puts]
noncomputable def want (st:Sp × List Pr) (w:Pr):Sp × List Pr:=if (get st.1 w.1).getD [] = w.2 then st else (put st.1 w.1 w.2,st.2 ++ [w])
noncomputable def wantsy (st:Sp × List Pr) (l:List Pr):Sp × List Pr:=l.foldl want st
noncomputable def wantsOf (h:Head):List Pr:=(pfx h.nm,h.uri) :: (h.ats.filter fun a => decide (pfx a.nm ≠ [])).map fun a => (pfx a.nm,a.uri)
noncomputable def decl (s:Sp) (h:Head):Sp × List Pr:=wantsy (puts s h.ns,h.ns) (wantsOf h)
structure Con (U:Tx -> Tx) (st:Sp × List Pr):Prop where
 u:∀ w ∈ st.2,w.2 = U w.1
 g:∀ w ∈ st.2,get st.1 w.1 = some w.2
 nd:(st.2.map (·.1)).Nodup
theorem Con.want {U:Tx -> Tx} {st:Sp × List Pr} {w:Pr} (c:Con U st) (hw:w.2 = U w.1):Con U (want st w) /\ (get (want st w).1 w.1).getD [] = U w.1 /\ ∀ p,(get st.1 p).getD [] = U p -> (get (Mine.want st w).1 p).getD [] = U p:=by
 unfold Mine.want
 split
 ·rename_i h
  exact ⟨c,by rw [h,hw],fun p h => h⟩
 ·rename_i h
  refine ⟨⟨?_,?_,?_⟩,?_,?_⟩
  ·intro x hx
   rcases List.mem_append.mp hx with hx | hx
   ·exact c.u x hx
   ·simp at hx; subst hx; exact hw
  ·intro x hx
   show get (put st.1 w.1 w.2) x.1 = _
   rw [get_put]
   rcases List.mem_append.mp hx with hx | hx
   ·split
    ·rename_i e
     rw [c.u x hx,e,hw]
    ·exact c.g x hx
   ·simp at hx; subst hx; simp
  ·show ((st.2 ++ [w]).map (·.1)).Nodup
   rw [List.map_append,List.nodup_append]
   refine ⟨c.nd,by simp,?_⟩
   intro a ha b hb e
   simp at hb; subst hb
   obtain ⟨x,hx,ex⟩:=List.mem_map.mp ha
   apply h
   rw [<- e,<- ex,c.g x hx,hw,<- e,<- ex]
   exact c.u x hx
  ·show (get (put st.1 w.1 w.2) w.1).getD [] = _
   rw [get_put,if_pos rfl,Option.getD_some,hw]
  ·intro p hp
   show (get (put st.1 w.1 w.2) p).getD [] = _
   rw [get_put]
   split
   ·rename_i e; rw [Option.getD_some,hw,e]
   ·exact hp
theorem Con.wants {U:Tx -> Tx}:∀ {l:List Pr} {st:Sp × List Pr},Con U st -> (∀ w ∈ l,w.2 = U w.1) -> Con U (wantsy st l) /\ (∀ w ∈ l,(get (wantsy st l).1 w.1).getD [] = w.2) /\ ∀ p,(get st.1 p).getD [] = U p -> (get (Mine.wantsy st l).1 p).getD [] = U p
 | [],st,c,_ => ⟨c,by simp,fun p h => h⟩
 | w :: l,st,c,h => by
  obtain ⟨c1,g1,k1⟩:=c.want (h w (.head _))
  obtain ⟨c2,g2,k2⟩:=c1.wants fun x hx => h x (.tail _ hx)
  refine ⟨c2,?_,fun p hp => k2 p (k1 p hp)⟩
  intro x hx
  cases hx with
  | head => rw [h w (.head _)]; exact k2 _ g1
  | tail _ hx => exact g2 x hx
theorem puts_get {U:Tx -> Tx}:∀ {l:List Pr} {s:Sp},(∀ w ∈ l,w.2 = U w.1) -> (∀ w ∈ l,get (puts s l) w.1 = some w.2) /\ ∀ p,get s p = some (U p) -> get (puts s l) p = some (U p)
 | [],s,_ => ⟨by simp,fun p h => h⟩
 | w :: l,s,h => by
  obtain ⟨g,k⟩:=puts_get (U:=U) (l:=l) (s:=put s w.1 w.2) fun x hx => h x (.tail _ hx)
  have hw:=h w (.head _)
  refine ⟨?_,fun p hp => k p ?_⟩
  ·intro x hx
   cases hx with
   | head =>
    rw [hw]
    exact k _ (by rw [get_put,if_pos rfl,hw])
   | tail _ hx => exact g x hx
  ·rw [get_put]
   split
   ·rename_i e; rw [hw,e]
   ·exact hp
theorem want_puts {s:Sp} {st:Sp × List Pr} {w:Pr} (h:st.1 = puts s st.2):(want st w).1 = puts s (want st w).2:=by
 unfold want
 split
 ·exact h
 ·show put st.1 w.1 w.2 = puts s (st.2 ++ [w])
  rw [puts_app,<- h]; rfl
theorem wants_puts {s:Sp}:∀ {l:List Pr} {st:Sp × List Pr},st.1 = puts s st.2 -> (wantsy st l).1 = puts s (wantsy st l).2
 | [],_,h => h
 | w :: l,st,h => wants_puts (l:=l) (want_puts h)
theorem want_pre {st:Sp × List Pr} {w:Pr}:∃ m,(want st w).2 = st.2 ++ m /\ ∀ x ∈ m,x = w:=by
 unfold want
 split
 ·exact ⟨[],by simp,by simp⟩
 ·exact ⟨[w],rfl,by simp⟩
theorem wants_pre:∀ {l:List Pr} {st:Sp × List Pr},∃ m,(wantsy st l).2 = st.2 ++ m /\ (∀ x ∈ m,x ∈ l) /\ m.length <= l.length
 | [],st => ⟨[],by simp [wantsy],by simp,by simp⟩
 | w :: l,st => by
  obtain ⟨m1,e1,h1⟩:=want_pre (st:=st) (w:=w)
  obtain ⟨m2,e2,h2,l2⟩:=wants_pre (l:=l) (st:=want st w)
  refine ⟨m1 ++ m2,by show (wantsy (want st w) l).2 = _; rw [e2,e1,List.append_assoc],?_,?_⟩
  ·intro x hx
   rcases List.mem_append.mp hx with hx | hx
   ·rw [h1 x hx]; exact .head _
   ·exact .tail _ (h2 x hx)
  ·have:m1.length <= 1:=by
    have:m1 = [] \/ m1 = [w]:=by
     unfold want at e1
     split at e1
     ·left; simpa using e1.symm
     ·right
      simp at e1; exact e1.symm
    rcases this with rfl | rfl <;> simp
   simp only [List.length_append,List.length_cons]; lia
theorem wants_none:∀ {l:List Pr} {st:Sp × List Pr},(∀ w ∈ l,(get st.1 w.1).getD [] = w.2) -> wantsy st l = st
 | [],_,_ => rfl
 | w :: l,st,h => by
  show wantsy (want st w) l = st
  have:want st w = st:=by unfold want; rw [if_pos (h w (.head _))]
  rw [this]
  exact wants_none fun x hx => h x (.tail _ hx)
noncomputable def pairMenu:List Pr:=[([],[]),([],[117]),([112],[118]),([112],[119]),([113],[119]),([115],[121]),([114],[120])]
noncomputable def bindU (m:Pr) (p:Tx):Tx:=if p = pfx m.1 then m.2 else if p = [113] then [119] else if p = [115] then [121] else [120]
theorem own_menu:∀ m ∈ elMenu,(pfx m.1,m.2) ∈ pairMenu /\ (([114],[120]):Pr).2 = bindU m [114] /\ (pfx m.1 ≠ [] -> m.2 ≠ []) /\ ([114]:Tx) ≠ pfx m.1 /\ ∀ x ∈ atMenu,pfx x.1 ≠ [] -> x.2 = bindU m (pfx x.1):=by decide
theorem att_menu:∀ m ∈ atMenu,(pfx m.1 ≠ [] -> (pfx m.1,m.2) ∈ pairMenu /\ m.2 ≠ []) /\ (pfx m.1 = [] -> m.2 = []):=by decide
structure OkPairs (h:Head):Prop where
 ns:∀ w ∈ h.ns,w ∈ pairMenu /\ w.2 = bindU (h.nm,h.uri) w.1
 ws:∀ w ∈ wantsOf h,w ∈ pairMenu /\ w.2 = bindU (h.nm,h.uri) w.1 /\ (w.1 ≠ [] -> w.2 ≠ [])
 nd:(h.ns.map (·.1)).Nodup
 at0:∀ a ∈ h.ats,pfx a.nm = [] -> a.uri = []
 nsl:h.ns.length <= 2
theorem OkH.pairs {h:Head} (o:OkH h):OkPairs h:=by
 obtain ⟨m1,m2,m3,m4,m5⟩:=own_menu _ o.nm
 obtain ⟨b1,b2,c,e⟩:=o.ns
 refine ⟨?_,?_,?_,fun a ha => (att_menu _ (o.ats a ha).1).2,by rw [e]; cases b1 <;> cases b2 <;> simp⟩
 ·intro w hw
  rw [e] at hw
  rcases List.mem_append.mp hw with hw | hw
  ·cases b1
   ·simp at hw
   ·simp at hw; subst hw
    exact ⟨m1,by simp [bindU]⟩
  ·cases b2
   ·simp at hw
   ·simp at hw; subst hw
    exact ⟨by decide,m2⟩
 ·intro w hw
  unfold wantsOf at hw
  cases hw with
  | head => exact ⟨m1,by simp [bindU],m3⟩
  | tail _ hw =>
   obtain ⟨a,ha,rfl⟩:=List.mem_map.mp hw
   obtain ⟨h1,h2⟩:=List.mem_filter.mp ha
   have h2:pfx a.nm ≠ []:=of_decide_eq_true h2
   have am:=o.ats a h1
   obtain ⟨x1,x2⟩:=(att_menu _ am.1).1 h2
   exact ⟨x1,m5 _ am.1 h2,fun _ => x2⟩
 ·rw [e]
  cases b1 <;> cases b2 <;> simp
  exact m4.symm
structure Decl (s:Sp) (h:Head):Prop where
 con:Con (bindU (h.nm,h.uri)) (decl s h)
 got:∀ w ∈ wantsOf h,(get (decl s h).1 w.1).getD [] = w.2
 put:(decl s h).1 = puts s (decl s h).2
 pre:∃ m,(decl s h).2 = h.ns ++ m /\ ∀ x ∈ m,x ∈ wantsOf h
 menu:∀ w ∈ (decl s h).2,w ∈ pairMenu
 len:(decl s h).2.length <= 5
theorem ok_con0 {s:Sp} {h:Head} (o:OkPairs h):Con (bindU (h.nm,h.uri)) (puts s h.ns,h.ns):=⟨fun w hw => (o.ns w hw).2,(puts_get fun w hw => (o.ns w hw).2).1,o.nd⟩
theorem OkH.decl {h:Head} (o:OkH h) (hl:h.ats.length <= 2) (s:Sp):Decl s h:=by
 have op:=o.pairs
 obtain ⟨c,g,_⟩:=(ok_con0 (s:=s) op).wants (l:=wantsOf h) fun w hw => (op.ws w hw).2.1
 obtain ⟨m,e,hm,lm⟩:=wants_pre (l:=wantsOf h) (st:=(puts s h.ns,h.ns))
 refine ⟨c,g,wants_puts rfl,⟨m,e,hm⟩,?_,?_⟩
 ·intro w hw
  have hw:w ∈ (wantsy (puts s h.ns,h.ns) (wantsOf h)).2:=hw
  rw [e] at hw
  rcases List.mem_append.mp hw with hw | hw
  ·exact (op.ns w hw).1
  ·exact (op.ws w (hm w hw)).1
 ·show (wantsy (puts s h.ns,h.ns) (wantsOf h)).2.length <= 5
  rw [e,List.length_append]
  have l1:(wantsOf h).length <= 3:=by
   unfold wantsOf
   have:=List.length_filter_le (fun a => decide (pfx a.nm ≠ [])) h.ats
   simp only [List.length_cons,List.length_map]; lia
  have:=op.nsl
  show h.ns.length + m.length <= 5
  lia
theorem decl_again {s:Sp} {h:Head} (d:Decl s h):Mine.decl s { h with ns:=(Mine.decl s h).2 } = Mine.decl s h:=by
 show wantsy (puts s (Mine.decl s h).2,(Mine.decl s h).2) (wantsOf h) = _
 rw [<- d.put]
 exact wants_none d.got
theorem big9 {n:Nat} (h:n < 900000):n < big:=Nat.lt_trans h (by decide)
theorem pairV_snoc {l:List Pr} {w:Pr}:pairV (l ++ [w]) = pairV l ++ [.tup [.str (T w.1),.str (T w.2)]]:=List.map_append
theorem pairV_len {l:List Pr}:(pairV l).length = l.length:=List.length_map _
theorem snoc_lt {α:Type} {l m:List α} {a:α} {n:Nat} (h:l.length + (m.length + 1) < n):(l ++ [a]).length + m.length < n:=by rw [List.length_append,Nat.add_assoc,Nat.add_comm [a].length]; exact h
theorem snoc_le {α β:Type} {l:List α} {m:List β} {a:α} {n:Nat} (h:l.length + (m.length + 1) < n):(l ++ [a]).length + m.length < n:=by rw [List.length_append,Nat.add_assoc,Nat.add_comm [a].length]; exact h
theorem head_lt {a b n:Nat} (h:a + b < n):a < n:=Nat.lt_of_le_of_lt (Nat.le_add_right _ _) h
structure Fit (h:Head):Prop where
 nm:h.nm.length < 10
 ns:∀ w ∈ h.ns,w.2 = bindU (h.nm,h.uri) w.1 /\ w.1.length < 10 /\ w.2.length < 10
 nd:(h.ns.map (·.1)).Nodup
 ws:∀ w ∈ wantsOf h,w.2 = bindU (h.nm,h.uri) w.1 /\ (w.1 ≠ [] -> w.2 ≠ []) /\ w.1.length < 10 /\ w.2.length < 10
 at0:∀ a ∈ h.ats,pfx a.nm = [] -> a.uri = []
 atl:∀ a ∈ h.ats,a.nm.length < 10 /\ a.val.length <= 9
 nsl:h.ns.length <= 5
 al:h.ats.length <= 2
theorem Fit.con {s:Sp} {h:Head} (o:Fit h):Con (bindU (h.nm,h.uri)) (puts s h.ns,h.ns):=⟨fun w hw => (o.ns w hw).1,(puts_get fun w hw => (o.ns w hw).1).1,o.nd⟩
noncomputable abbrev B2 (i j:Nat) (b:CSs):V -> SC:=fun x e fr σ N => asg2K i j x e fr σ fun e fr σ => evSs b e fr σ N
section
variable {wf n k i d:Nat} {σ:St} {rows:List Row} {r:Row} {h:Head} {lo:Nat} {ch:List Nat} {s:Sp} {P:PX} {N:KN} {mk:Bool} {K:List V -> EE -> Fr -> St -> Prop} {fr:Fr}
theorem ap_get {l:List Cell} {j:Nat}:(σ ++ l)[σ.length + j]? = l[j]?:=by rw [List.getElem?_append_right (Nat.le_add_right _ _),Nat.add_sub_cancel_left]
theorem ap_set {l:List Cell} {j:Nat} {c:Cell}:(σ ++ l).set (σ.length + j) c = σ ++ l.set j c:=by rw [List.set_append_right _ _ (Nat.le_add_right _ _),Nat.add_sub_cancel_left]
theorem ap_tree {l:List Cell} (t:IsT σ k rows):IsT (σ ++ l) k rows:=⟨get_app t.1,t.2⟩
theorem dict_ref {kvs:List (Str × V)} (e:σ[d]? = some (.dict kvs)) (h:kvs.length <= big):bfF mk .dict [.ref d] σ = .ok (.ref σ.length) (σ ++ [.dict kvs]):=oO_some (o:=dictAt σ d) (dictAt_eq e) (if_pos h)
theorem get_ref {p q:Tx} (e:σ[d]? = some (.dict (scL s))):bmF mk .get (.ref d) [.str (T p),.str (T q)] σ = .ok (.str (T ((get s p).getD q))) σ :=
 oO_some (o:=dictAt σ d) (dictAt_eq e) (by show Out.ok (((scL s).lookup (T p)).getD (.str (T q))) σ = _; rw [lookup_scL]; cases get s p <;> rfl)
theorem scL_len:(scL s).length = s.length:=List.length_map _
theorem set_ref {p u:Tx} (e:σ[d]? = some (.dict (scL s))) (h:s.length < 900000):setItemF (.ref d) (.str (T p)) (.str (T u)) σ = some (σ.set d (.dict (scL (put s p u)))):=by
 show Option.map _ ((dictAt σ d).bind _) = _
 rw [dictAt_eq e,Option.bind_some,if_pos (by rw [scL_len]; exact big9 h),upd_scL]; rfl
theorem ns_go (t:IsT σ k rows) {js:List Nat} {ns:List Pr} (x:NsRy rows lo js ns):∀ (acc:List Pr),acc.length + ns.length < 1000 -> K (pairV (acc ++ ns)) ⟨cx1 wf (n + 2),P⟩ fr σ ->
  compP (fun _ => true) (fun x σ R => ev (.tup (.cons (.meth false (.var 1) "name" [(536,463)] .none (.cons (.var 0) .nil) [] .nil) (.cons (.meth false (.var 1) "value" [(536,484)] .none (.cons (.var 0) .nil) [] .nil) .nil))) (EE.to ⟨cx1 wf (n + 2),P⟩ fun y σ => R (some y) σ) [some x,some (.ref k)] σ retN) (ivs js) (pairV acc) ⟨cx1 wf (n + 2),P⟩ fr σ K:=by
 induction x with
 | nil => exact fun acc _ kk => ⟨rfl,by rwa [List.append_nil] at kk⟩
 | @cons j w js ns h r ih =>
  intro acc hl kk
  obtain ⟨_,q,e,_,h1,h2⟩:=h
  have pn:=pname (wf:=wf) (n:=n) t e
  have pv:=pval (wf:=wf) (n:=n) t e
  rw [h1] at pn
  rw [h2] at pv
  have:=ih (acc ++ [w]) (snoc_lt hl) (by rw [List.append_assoc]; exact kk)
  rw [pairV_snoc] at this
  exact ⟨⟨rfl,by rw [pairV_len]; exact Nat.le_of_lt (big_of (head_lt hl))⟩,elo_ok (psel t (by kernel_rfl)) (ca_ok pn (elo_ok (psel t (by kernel_rfl)) (ca_ok pv this)))⟩
noncomputable def bodyC1:CSs:=(.cons (.setitem (.var 5) (.var 6) (.var 7)) .nil)
noncomputable abbrev frC (k i d N:Nat) (x3 x6 x7 x8:Option V):Fr:=[some (.ref k),some (iv i),some (.ref d),x3,some (.ref N),some (.ref (N + 1)),x6,x7,x8]
theorem put_le {p u:Tx} {l:List Pr} {m:Nat} (h:s.length + (l.length + 1) < m):(put s p u).length + l.length < m:=Nat.lt_of_le_of_lt (Nat.add_le_add_right put_len _) (by rw [Nat.add_assoc,Nat.add_comm 1]; exact h)
theorem loopC1 {X:List V} {kp:St -> Bool} (hk:∀ s,kp (σ ++ [.list X,.dict (scL s)]) = true) {x3 x8:Option V} (l:List Pr):∀ (s:Sp) (x6 x7:Option V),s.length + l.length < 900000 -> (∀ y6 y7,N ⟨cx1 wf n,P⟩ (frC k i d σ.length x3 y6 y7 x8) (σ ++ [.list X,.dict (scL (puts s l))])) ->
  forP kp (B2 6 7 bodyC1) (pairV l) ⟨cx1 wf n,P⟩ (frC k i d σ.length x3 x6 x7 x8) (σ ++ [.list X,.dict (scL s)]) N:=by
 induction l with
 | nil => exact fun s x6 x7 _ kk => ⟨hk s,kk x6 x7⟩
 | cons w l ih =>
  intro s x6 x7 hl kk
  have sr:=set_ref (σ:=σ ++ [.list X,.dict (scL s)]) (d:=σ.length + 1) (s:=s) (p:=w.1) (u:=w.2) (by rw [ap_get]; rfl) (head_lt hl)
  rw [ap_set] at sr
  exact ⟨hk s,elo_ok sr (ih (put s w.1 w.2) _ _ (put_le hl) kk)⟩
noncomputable abbrev S3 (σ:St) (X:List Pr) (s:Sp) (W:List Pr):St:=σ ++ [.list (pairV X),.dict (scL s),.list (pairV W)]
theorem s3_0 {X W:List Pr}:(S3 σ X s W)[σ.length]? = some (.list (pairV X)):=ap_get (j:=0)
theorem s3_1 {X W:List Pr}:(S3 σ X s W)[σ.length + 1]? = some (.dict (scL s)):=ap_get
theorem s3_2 {X W:List Pr}:(S3 σ X s W)[σ.length + 2]? = some (.list (pairV W)):=ap_get
theorem s3_app0 {X W:List Pr} {w:Pr} (h:X.length < 1000):bmF mk .append (.ref σ.length) [.tup [.str (T w.1),.str (T w.2)]] (S3 σ X s W) = .ok .none (S3 σ (X ++ [w]) s W):=by
 rw [append_ref s3_0 (by rw [pairV_len]; exact big_of h),<- pairV_snoc]
 exact congrArg _ (ap_set (j:=0))
theorem s3_app2 {X W:List Pr} {w:Pr} (h:W.length < 1000):bmF mk .append (.ref (σ.length + 2)) [.tup [.str (T w.1),.str (T w.2)]] (S3 σ X s W) = .ok .none (S3 σ X s (W ++ [w])):=by
 rw [append_ref s3_2 (by rw [pairV_len]; exact big_of h),<- pairV_snoc]
 exact congrArg _ ap_set
theorem s3_set {X W:List Pr} {p u:Tx} (h:s.length < 900000):setItemF (.ref (σ.length + 1)) (.str (T p)) (.str (T u)) (S3 σ X s W) = some (S3 σ X (put s p u) W):=by
 rw [set_ref s3_1 h]
 exact congrArg _ ap_set
noncomputable def bodyC2:CSs:=(.cons (.asg2 6 7 (.tup (.cons (.fn 96 (.cons (.meth false (.var 0) "name" [(536,463)] .none (.cons (.var 3) .nil) [] .nil) .nil) [] .nil) (.cons (.meth false (.var 0) "uri" [(536,470)] .none (.cons (.var 3) .nil) [] .nil) .nil)))) (.cons (.ite (.cmp (.var 6) [.NotEq] (.cons (.const (.str (T []))) .nil)) (.cons (.expr (.meth false (.var 8) "append" [] (some .append) (.cons (.tup (.cons (.var 6) (.cons (.var 7) .nil))) .nil) [] .nil)) .nil) (.cons (.ite (.cmp (.var 7) [.NotEq] (.cons (.const (.str (T []))) .nil)) (.cons (.raise 63 (.const (.str "an attribute with a namespace and no prefix"))) .nil) .nil) .nil)) .nil))
noncomputable def atW (as:List Att):List Pr:=(as.filter fun a => decide (pfx a.nm ≠ [])).map fun a => (pfx a.nm,a.uri)
theorem atW_neg {a:Att} {as:List Att} (c:pfx a.nm = []):atW (a :: as) = atW as:=by
 unfold atW
 rw [List.filter_cons_of_neg (p:=fun a:Att => decide (pfx a.nm ≠ [])) (fun h => absurd c (of_decide_eq_true h))]
theorem atW_pos {a:Att} {as:List Att} (c:pfx a.nm ≠ []):atW (a :: as) = (pfx a.nm,a.uri) :: atW as:=by
 unfold atW
 rw [List.filter_cons_of_pos (p:=fun a:Att => decide (pfx a.nm ≠ [])) (decide_eq_true c)]; rfl
theorem loopC2 {X:List Pr} {kp:St -> Bool} (t:IsT σ k rows) (hk:∀ σ,kp σ = true) {s:Sp} {js:List Nat} {as:List Att} (x:AtRy rows lo js as):∀ (W:List Pr) (x3 x6 x7:Option V),(∀ a ∈ as,a.nm.length < 10) -> (∀ a ∈ as,pfx a.nm = [] -> a.uri = []) -> W.length + as.length < 1000 ->
  (∀ y3 y6 y7,N ⟨cx1 wf (n + 2),P⟩ (frC k i d σ.length y3 y6 y7 (some (.ref (σ.length + 2)))) (S3 σ X s (W ++ atW as))) ->
  forP kp (B1 3 bodyC2) (ivs js) ⟨cx1 wf (n + 2),P⟩ (frC k i d σ.length x3 x6 x7 (some (.ref (σ.length + 2)))) (S3 σ X s W) N:=by
 induction x with
 | nil => exact fun W x3 x6 x7 _ _ _ kk => ⟨hk _,by have:=kk x3 x6 x7; rwa [atW,List.filter_nil,List.map_nil,List.append_nil] at this⟩
 | @cons j a js as h r ih =>
  intro W x3 x6 x7 hn h0 hl kk
  obtain ⟨_,q,e,_,h1,h2,_,_⟩:=h
  have t3:IsT (S3 σ X s W) k rows:=ap_tree t
  have pn:=pname (wf:=wf) (n:=n) t3 e
  have pu:=puri (wf:=wf) (n:=n) t3 e
  rw [h1] at pn
  rw [h2] at pu
  refine ⟨hk _,elo_ok (psel t3 (by kernel_rfl)) (ca_ok pn (ca_ok (prefix_of (Nat.lt_trans (hn a (.head _)) (by decide))) (elo_ok (psel t3 (by kernel_rfl)) (ca_ok pu ?_))))⟩
  have hn':=fun b hb => hn b (.tail _ hb)
  have h0':=fun b hb => h0 b (.tail _ hb)
  by_cases c:pfx a.nm = []
  ·have u0:=h0 a (.head _) c
   rw [atW_neg c] at kk
   exact elo_ok (nes_f (congrArg T c)) (br_f rfl (elo_ok (nes_f (congrArg T u0)) (br_f rfl (ih W _ _ _ hn' h0' (Nat.lt_of_le_of_lt (Nat.le_succ _) hl) kk))))
  ·rw [atW_pos c,List.append_cons] at kk
   exact elo_ok (nes_t fun h => c (T_inj.mp h)) (br_t rfl (elo_ok (selF_append s3_2) (el_ok (s3_app2 (w:=(pfx a.nm,a.uri)) (head_lt hl)) (ih _ _ _ _ hn' h0' (snoc_le hl) kk))))
noncomputable def strVy (l:List Tx):List V:=l.map fun p => .str (T p)
theorem strV_len {l:List Tx}:(strVy l).length = l.length:=List.length_map _
theorem fst_go {kp:St -> Bool} (hk:kp σ = true) (X:List Pr):∀ (acc:List Tx),acc.length + X.length < 1000 -> K (strVy (acc ++ X.map (·.1))) ⟨cx1 wf n,P⟩ fr σ ->
  compP kp (fun x σ R => ev (.sub (.var 0) (.const (.int 0))) (EE.to ⟨cx1 wf n,P⟩ fun y σ => R (some y) σ) [some x] σ retN) (pairV X) (strVy acc) ⟨cx1 wf n,P⟩ fr σ K:=by
 induction X with
 | nil => exact fun acc _ kk => ⟨hk,by rwa [List.map_nil,List.append_nil] at kk⟩
 | cons w X ih =>
  intro acc hl kk
  have:=ih (acc ++ [w.1]) (snoc_le hl) (by rw [List.append_assoc]; exact kk)
  rw [strVy,List.map_append] at this
  exact ⟨⟨hk,by rw [strV_len]; exact Nat.le_of_lt (big_of (head_lt hl))⟩,elo_ok sub_t0 this⟩
theorem strsIn_map {p:Tx} {l:List Tx}:strsIn (T p) (strVy l) = some (decide (p ∈ l)):=by
 have:strVy l = (l.map T).map .str:=List.map_map.symm
 unfold strsIn
 rw [this,strsOf_map]
 exact congrArg some (decide_eq_decide.mpr ⟨fun h => by obtain ⟨x,hx,e⟩:=List.mem_map.mp h; rw [<- T_inj.mp e]; exact hx,fun h => List.mem_map.mpr ⟨p,h,rfl⟩⟩)
noncomputable def bodyC3:CSs:=(.cons (.ite (.cmp (.meth false (.var 5) "get" [] (some .get) (.cons (.var 6) (.cons (.const (.str (T []))) .nil)) [] .nil) [.NotEq] (.cons (.var 7) .nil)) (.cons (.ite (.or (.and (.cmp (.var 6) [.NotEq] (.cons (.const (.str (T []))) .nil)) (.and (.cmp (.var 7) [.Eq] (.cons (.const (.str (T []))) .nil)) (.const (.bool true)))) (.or (.cmp (.var 6) [.In] (.cons (.comp false (.var 4) [] (.sub (.var 0) (.const (.int 0)))) .nil)) (.const (.bool false)))) (.cons (.raise 63 (.const (.str "a prefix that is bound to something else"))) .nil) .nil) (.cons (.setitem (.var 5) (.var 6) (.var 7)) (.cons (.expr (.meth false (.var 4) "append" [] (some .append) (.cons (.tup (.cons (.var 6) (.cons (.var 7) .nil))) .nil) [] .nil)) .nil))) .nil) .nil)
theorem or_ev {A B:CE} {e:EE} {fr:Fr} {σ:St} {K:KE} (h:ev A e fr σ fun v e fr σ => tK v fun c => Br c (K (.bool true) e fr σ) (ev B e fr σ K)):ev (.or A B) e fr σ K:=h
theorem ite_ev {t:CE} {a b:CSs} {e:EE} {fr:Fr} {σ:St} {N:KN} (h:ev t e fr σ fun v e fr σ => tK v fun c => Br c (evSs a e fr σ N) (evSs b e fr σ N)):evS (.ite t a b) e fr σ N:=h
theorem and_no {w:Pr} {e:EE} {m:Nat} {x3 x8:Option V} {K:KE} (h:w.1 ≠ [] -> w.2 ≠ []) (kk:K (.bool false) e (frC k i d m x3 (some (.str (T w.1))) (some (.str (T w.2))) x8) σ) :
  ev (.and (.cmp (.var 6) [.NotEq] (.cons (.const (.str (T []))) .nil)) (.and (.cmp (.var 7) [.Eq] (.cons (.const (.str (T []))) .nil)) (.const (.bool true)))) e (frC k i d m x3 (some (.str (T w.1))) (some (.str (T w.2))) x8) σ K:=by
 by_cases z:w.1 = []
 ·exact elo_ok (nes_f (congrArg T z)) (br_f rfl kk)
 ·exact elo_ok (nes_t fun h => z (T_inj.mp h)) (br_t rfl (elo_ok (eqs_f fun e => h z (T_inj.mp e)) (br_f rfl kk)))
theorem loopC3 {W:List Pr} {U:Tx -> Tx} {kp:St -> Bool} (hk:∀ X s,kp (S3 σ X s W) = true) {x3:Option V} (l:List Pr):∀ (s:Sp) (X:List Pr) (x6 x7:Option V),Con U (s,X) -> (∀ w ∈ l,w.2 = U w.1 /\ (w.1 ≠ [] -> w.2 ≠ [])) -> s.length + l.length < 900000 -> X.length + l.length < 900 ->
  (∀ y6 y7,N ⟨cx1 wf n,P⟩ (frC k i d σ.length x3 y6 y7 (some (.ref (σ.length + 2)))) (S3 σ (wantsy (s,X) l).2 (wantsy (s,X) l).1 W)) ->
  forP kp (B2 6 7 bodyC3) (pairV l) ⟨cx1 wf n,P⟩ (frC k i d σ.length x3 x6 x7 (some (.ref (σ.length + 2)))) (S3 σ X s W) N:=by
 induction l with
 | nil => exact fun s X x6 x7 _ _ _ _ kk => ⟨hk X s,kk x6 x7⟩
 | cons w l ih =>
  intro s X x6 x7 c hl n1 n2 kk
  obtain ⟨hu,hz⟩:=hl w (.head _)
  have c':=(c.want (w:=w) hu).1
  have hl':=fun x hx => hl x (.tail _ hx)
  have w0:wantsy (s,X) (w :: l) = wantsy (want (s,X) w) l:=rfl
  rw [w0] at kk
  refine ⟨hk X s,elo_ok (selF_get s3_1) (el_ok (get_ref s3_1) ?_)⟩
  by_cases e:(get s w.1).getD [] = w.2
  ·have w1:want (s,X) w = (s,X):=by unfold want; rw [if_pos e]
   rw [w1] at kk
   exact elo_ok (nes_f (congrArg T e)) (br_f rfl (ih s X _ _ c hl' (Nat.lt_of_le_of_lt (Nat.le_succ _) n1) (Nat.lt_of_le_of_lt (Nat.le_succ _) n2) kk))
  ·have w1:want (s,X) w = (put s w.1 w.2,X ++ [w]):=by unfold want; rw [if_neg e]
   rw [w1] at c' kk
   have nf:w.1 ∉ X.map (·.1):=fun hm => by
    obtain ⟨z,hw,ew⟩:=List.mem_map.mp hm
    have g1:get s z.1 = some z.2:=c.g z hw
    rw [ew] at g1
    rw [g1,Option.getD_some,c.u z hw,ew] at e
    exact e hu.symm
   have x9:X.length < 900:=head_lt n2
   have x10:X.length < 1000:=Nat.lt_trans x9 (by decide)
   have si:cmpQ (S3 σ X s W) .In (.str (T w.1)) (.lst (strVy (X.map (·.1)))) = some false:=strsIn_map.trans (congrArg some (decide_eq_false nf))
   refine elo_ok (nes_t fun h => e (T_inj.mp h)) (br_t rfl (seq (ite_ev (or_ev (and_no hz (br_f rfl (elo_ok (items_ref s3_0) (fst_go (keep_ref s3_0) X [] (by rw [List.length_nil,Nat.zero_add]; exact x10) ?_))))))))
   rw [List.nil_append]
   exact el_ok (okL_small (by rw [strV_len,List.length_map]; exact x10)) (elo_ok si (br_f rfl (br_f rfl (elo_ok (s3_set (head_lt n1)) (elo_ok (selF_append s3_0) (el_ok (s3_app0 (w:=w) x10) (ih _ _ _ _ c' hl' (put_le n1) (snoc_le n2) kk)))))))
theorem wants_len (f:h.ats.length <= 2):(wantsOf h).length <= 3:=by
 unfold wantsOf
 rw [List.length_cons,List.length_map]
 exact Nat.succ_le_succ (Nat.le_trans (List.length_filter_le _ _) f)
theorem declared_ok (t:IsT σ k rows) (hi:rows[i]? = some r) (H:HeadR rows lo r h ch) (f:Fit h) (hd:σ[d]? = some (.dict (scL s))) (hs:s.length < 800000) :
  Ok (R1 wf (n + 3) 122 [.ref k,iv i,.ref d] [] σ) (.ref σ.length) (S3 σ (decl s h).2 (decl s h).1 (wantsOf h)):=by
 have ln:h.ns.length < 1000:=Nat.lt_of_le_of_lt f.nsl (by decide)
 have nl:r.nss.length <= big:=by rw [H.7.len]; exact Nat.le_of_lt (big_of ln)
 have al:r.ats.length <= big:=by rw [H.8.len]; exact Nat.le_trans f.al (by decide)
 have d1:bfF false .dict [.ref d] (σ ++ [.list (pairV h.ns)]) = .ok (.ref (σ.length + 1)) (σ ++ [.list (pairV h.ns),.dict (scL s)]):=by
  rw [dict_ref (get_app hd) (by rw [scL_len]; exact Nat.le_of_lt (Nat.lt_trans hs (by decide))),List.append_assoc,List.length_append]; rfl
 have hm:s.length + h.ns.length <= 800005:=Nat.add_le_add (Nat.le_of_lt hs) f.nsl
 refine ok_r1 rfl rfl fun P kk => elo_ok (psel t (by kernel_rfl)) (ca_ok (pnss t hi nl) (elo_ok rfl (ns_go t H.7 [] (by rw [List.length_nil,Nat.zero_add]; exact ln) ?_)))
 rw [List.nil_append]
 refine el_ok (okL_smallr (by rw [pairV_len]; exact ln)) (el_ok d1 (elo_ok (items_ref (ap_get (j:=0))) (loopC1 (fun s => keep_ref (ap_get (j:=0))) h.ns s none none (Nat.lt_of_le_of_lt hm (by decide)) fun y6 y7 => ?_)))
 have t2:IsT (σ ++ [.list (pairV h.ns),.dict (scL (puts s h.ns))]) k rows:=ap_tree t
 have q1:=pname (wf:=wf) (n:=n) t2 hi
 have q2:=puri (wf:=wf) (n:=n) t2 hi
 rw [H.name] at q1
 rw [H.uri] at q2
 have t3:IsT (S3 σ h.ns (puts s h.ns) [(pfx h.nm,h.uri)]) k rows:=ap_tree t
 have wl:=wants_len f.al
 have go:∀ σ2 m,m = σ.length + 2 -> σ2 = S3 σ h.ns (puts s h.ns) [(pfx h.nm,h.uri)] -> evSs (.cons (.for1 3 (.meth false (.var 0) "attributes" [(536,505)] .none (.cons (.var 1) .nil) [] .nil) bodyC2) (.cons (.for2 6 7 (.var 8) bodyC3) (.cons (.ret (.var 4)) .nil))) ⟨cx1 wf (n + 2),P⟩ (frC k i d σ.length none y6 y7 (some (.ref m))) σ2 endN:=by
  intro σ2 m e1 e2
  subst e1; subst e2
  refine elo_ok (psel t3 (by kernel_rfl)) (ca_ok (pats t3 hi al) (elo_ok rfl (loopC2 t (fun _ => rfl) H.8 _ _ _ _ (fun a ha => (f.atl a ha).1) f.at0 (Nat.lt_of_le_of_lt (Nat.add_le_add_left f.al _) (by decide:1 + 2 < 1000)) fun z3 z6 z7 => ?_)))
  exact elo_ok (items_ref s3_2) (loopC3 (fun X s => keep_ref s3_2) (wantsOf h) (puts s h.ns) h.ns _ _ f.con (fun w hw => ⟨(f.ws w hw).1,(f.ws w hw).2.1⟩) (Nat.lt_of_le_of_lt (Nat.add_le_add (Nat.le_trans puts_len hm) wl) (by decide)) (Nat.lt_of_le_of_lt (Nat.add_le_add f.nsl wl) (by decide)) fun y6 y7 => kk)
 exact elo_ok (psel t2 (by kernel_rfl)) (ca_ok q1 (ca_ok (prefix_of (Nat.lt_trans f.nm (by decide))) (elo_ok (psel t2 (by kernel_rfl)) (ca_ok q2 (go _ _ List.length_append (List.append_assoc ..))))))
end
noncomputable def xn (p:Tx):Tx:=if p = [] then [120,109,108,110,115] else [120,109,108,110,115,58] ++ p
noncomputable def att (p:Pr):Tx:=32 :: p.1 ++ [61,34] ++ p.2.flatMap escV ++ [34]
noncomputable def xns (l:List Pr):List Pr:=l.map fun p => (xn p.1,p.2)
noncomputable def ans (l:List Att):List Pr:=l.map fun a => (a.nm,a.val)
noncomputable def told (h:Head) (ps:List Pr):List Pr:=xns ps ++ ans h.ats
noncomputable def tagT (h:Head) (ps:List Pr) (e:Bool):Tx:=60 :: h.nm ++ (told h ps).flatMap att ++ (if e then [47,62] else [62])
theorem pre_lt {a b:Tx} {m:Nat} (h:(a ++ b).length < m):a.length < m:=by rw [List.length_append] at h; exact head_lt h
section
variable {wf n k i d:Nat} {σ:St} {rows:List Row} {r:Row} {h:Head} {lo:Nat} {ch:List Nat} {s:Sp} {P:PX} {N:KN}
theorem att_len {p:Pr} (h1:p.1.length < 20) (h2:p.2.length < 10):(att p).length < 90:=by
 have:=esc_len escV_len p.2
 unfold att
 rw [List.length_append,List.length_append,List.length_append,List.length_cons]
 show p.1.length + 1 + 2 + _ + 1 < 90
 lia
theorem xn_len {p:Tx} (h:p.length < 10):(xn p).length < 20:=by
 unfold xn
 split
 ·decide
 ·rw [List.length_append]; exact Nat.lt_trans (Nat.add_lt_add_left h 6) (by decide)
theorem step_len {a t l:Nat} (ha:a < 90) (h:t + 90 * (l + 1) < 1000):t + a < 1000 /\ t + a + 90 * l < 1000:=by lia
theorem att_cat {t x u:Tx}:((((t ++ (32 :: x)) ++ [61,34]) ++ u.flatMap escV) ++ [34]) = t ++ att (x,u):=by
 unfold att
 rw [List.append_assoc,List.append_assoc,List.append_assoc,List.append_assoc,List.append_assoc]
noncomputable def bodyT1:CSs:=(.cons (.asg 4 (.bin false .Add (.bin false .Add (.bin false .Add (.bin false .Add (.var 4) (.ite (.cmp (.var 5) [.Eq] (.cons (.const (.str (T []))) .nil)) (.const (.str (T [32,120,109,108,110,115]))) (.bin false .Add (.const (.str (T [32,120,109,108,110,115,58]))) (.var 5)))) (.const (.str (T [61,34])))) (.fn 89 (.cons (.var 6) .nil) [] .nil)) (.const (.str (T [34]))))) .nil)
noncomputable def bodyT2:CSs:=(.cons (.asg 4 (.bin false .Add (.bin false .Add (.bin false .Add (.bin false .Add (.bin false .Add (.var 4) (.const (.str (T [32])))) (.meth false (.var 0) "name" [(536,463)] .none (.cons (.var 7) .nil) [] .nil)) (.const (.str (T [61,34])))) (.fn 89 (.cons (.meth false (.var 0) "value" [(536,484)] .none (.cons (.var 7) .nil) [] .nil) .nil) [] .nil)) (.const (.str (T [34]))))) .nil)
noncomputable abbrev frT (k i N:Nat) (e:Bool) (t:Tx) (x5 x6 x7:Option V):Fr:=[some (.ref k),some (iv i),some (.ref N),some (.bool e),some (.str (T t)),x5,x6,x7]
theorem loopT1 {M:Nat} {e:Bool} {kp:St -> Bool} (hk:kp σ = true) {x7:Option V} (l:List Pr):∀ (t:Tx) (x5 x6:Option V),(∀ p ∈ l,p.1.length < 10 /\ p.2.length < 10) -> t.length + 90 * l.length < 1000 ->
  (∀ y5 y6,N ⟨cx1 wf (n + 2),P⟩ (frT k i M e (t ++ (xns l).flatMap att) y5 y6 x7) σ) -> forP kp (B2 5 6 bodyT1) (pairV l) ⟨cx1 wf (n + 2),P⟩ (frT k i M e t x5 x6 x7) σ N:=by
 induction l with
 | nil => exact fun t x5 x6 _ _ kk => ⟨hk,by have:=kk x5 x6; rwa [xns,List.map_nil,List.flatMap_nil,List.append_nil] at this⟩
 | cons w l ih =>
  intro t x5 x6 hp hl kk
  obtain ⟨h1,h2⟩:=hp w (.head _)
  obtain ⟨a1,a2⟩:=step_len (att_len (p:=(xn w.1,w.2)) (xn_len h1) h2) hl
  rw [<- List.length_append] at a1 a2
  rw [xns,List.map_cons,List.flatMap_cons,<- List.append_assoc] at kk
  have nx:=ih (t ++ att (xn w.1,w.2)) (some (.str (T w.1))) (some (.str (T w.2))) (fun q hq => hp q (.tail _ hq)) a2 kk
  rw [<- att_cat] at a1 nx
  have eu:=escaped_value (wf:=wf) (n:=n) (σ:=σ) (Nat.le_of_lt (Nat.lt_trans h2 (by decide)))
  refine ⟨hk,?_⟩
  by_cases c:w.1 = []
  ·rw [show 32 :: xn w.1 = [32,120,109,108,110,115] by rw [xn,if_pos c]] at a1 nx
   have h3:=pre_lt a1
   have h4:=pre_lt h3
   exact elo_ok (eqs_t (congrArg T c)) (br_t rfl (el_ok (add_T (pre_lt h4)) (el_ok (add_T h4) (ca_ok eu (el_ok (add_T h3) (el_ok (add_T a1) nx))))))
  ·rw [show 32 :: xn w.1 = [32,120,109,108,110,115,58] ++ w.1 by rw [xn,if_neg c]; rfl] at a1 nx
   have h3:=pre_lt a1
   have h4:=pre_lt h3
   exact elo_ok (eqs_f fun h => c (T_inj.mp h)) (br_f rfl (el_ok (add_T (by rw [List.length_append]; exact Nat.lt_trans (Nat.add_lt_add_left h1 7) (by decide))) (el_ok (add_T (pre_lt h4)) (el_ok (add_T h4) (ca_ok eu (el_ok (add_T h3) (el_ok (add_T a1) nx)))))))
theorem loopT2 {M:Nat} {e:Bool} (t0:IsT σ k rows) {kp:St -> Bool} (hk:kp σ = true) {x5 x6:Option V} {js:List Nat} {as:List Att} (x:AtRy rows lo js as):∀ (t:Tx) (x7:Option V),(∀ a ∈ as,a.nm.length < 10 /\ a.val.length <= 9) -> t.length + 90 * as.length < 1000 ->
  (∀ y7,N ⟨cx1 wf (n + 2),P⟩ (frT k i M e (t ++ (ans as).flatMap att) x5 x6 y7) σ) -> forP kp (B1 7 bodyT2) (ivs js) ⟨cx1 wf (n + 2),P⟩ (frT k i M e t x5 x6 x7) σ N:=by
 induction x with
 | nil => exact fun t x7 _ _ kk => ⟨hk,by have:=kk x7; rwa [ans,List.map_nil,List.flatMap_nil,List.append_nil] at this⟩
 | @cons j a js as h r ih =>
  intro t x7 hp hl kk
  obtain ⟨_,q,eq,_,g1,_,_,g4⟩:=h
  obtain ⟨h1,h2⟩:=hp a (.head _)
  have h2:=Nat.lt_succ_of_le h2
  obtain ⟨a1,a2⟩:=step_len (att_len (p:=(a.nm,a.val)) (Nat.lt_trans h1 (by decide)) h2) hl
  rw [<- List.length_append] at a1 a2
  rw [ans,List.map_cons,List.flatMap_cons,<- List.append_assoc] at kk
  have pn:=pname (wf:=wf) (n:=n) t0 eq
  have pv:=pval (wf:=wf) (n:=n) t0 eq
  rw [g1] at pn
  rw [g4] at pv
  have nx:=ih (t ++ att (a.nm,a.val)) (some (iv j)) (fun q hq => hp q (.tail _ hq)) a2 kk
  rw [<- att_cat] at a1 nx
  rw [show t ++ 32 :: a.nm = t ++ [32] ++ a.nm from List.append_cons ..] at a1 nx
  have h3:=pre_lt a1
  have h4:=pre_lt h3
  have h5:=pre_lt h4
  exact ⟨hk,el_ok (add_T (pre_lt h5)) (elo_ok (psel t0 (by kernel_rfl)) (ca_ok pn (el_ok (add_T h5) (el_ok (add_T h4) (elo_ok (psel t0 (by kernel_rfl)) (ca_ok pv (ca_ok (escaped_value (Nat.le_of_lt (Nat.lt_trans h2 (by decide)))) (el_ok (add_T h3) (el_ok (add_T a1) nx)))))))))⟩
theorem atts_len {l:List Pr} (h:∀ p ∈ l,p.1.length < 20 /\ p.2.length < 10):(l.flatMap att).length <= 90 * l.length:=by
 induction l with
 | nil => exact Nat.le_refl _
 | cons p l ih =>
  rw [List.flatMap_cons,List.length_append,List.length_cons,Nat.mul_succ,Nat.add_comm]
  exact Nat.add_le_add (ih fun q hq => h q (.tail _ hq)) (Nat.le_of_lt (att_len (h p (.head _)).1 (h p (.head _)).2))
theorem told_cat {ps:List Pr}:(60 :: h.nm ++ (xns ps).flatMap att) ++ (ans h.ats).flatMap att = 60 :: h.nm ++ (told h ps).flatMap att:=by rw [told,List.flatMap_append,List.append_assoc]
theorem tag_ok {M:Nat} {ps:List Pr} {e:Bool} (t:IsT σ k rows) (hi:rows[i]? = some r) (H:HeadR rows lo r h ch) (f:Fit h) (hN:σ[M]? = some (.list (pairV ps))) (hp:∀ p ∈ ps,p.1.length < 10 /\ p.2.length < 10) (hl:ps.length <= 8) :
  Ok (R1 wf (n + 3) 129 [.ref k,iv i,.ref M,.bool e] [] σ) (.str (T (tagT h ps e))) σ:=by
 have pn:=pname (wf:=wf) (n:=n) t hi
 rw [H.name] at pn
 have pa:=pats (wf:=wf) (n:=n) t hi (by rw [H.8.len]; exact Nat.le_trans f.al (by decide))
 have l1:((xns ps).flatMap att).length <= 90 * ps.length:=by
  have:=atts_len (l:=xns ps) fun q hq => by
   obtain ⟨w,hw,rfl⟩:=List.mem_map.mp hq
   exact ⟨xn_len (hp w hw).1,(hp w hw).2⟩
  rwa [xns,List.length_map] at this
 have l2:((ans h.ats).flatMap att).length <= 90 * h.ats.length:=by
  have:=atts_len (l:=ans h.ats) fun q hq => by
   obtain ⟨w,hw,rfl⟩:=List.mem_map.mp hq
   exact ⟨Nat.lt_trans (f.atl w hw).1 (by decide),Nat.lt_succ_of_le (f.atl w hw).2⟩
  rwa [ans,List.length_map] at this
 have ln:=f.nm
 have la:=f.al
 have z1:(60 :: h.nm).length + 90 * ps.length < 1000:=by rw [List.length_cons]; lia
 have z2:(60 :: h.nm ++ (xns ps).flatMap att).length + 90 * h.ats.length < 1000:=by rw [List.length_append,List.length_cons]; lia
 have z3:∀ z:Tx,z.length <= 2 -> (60 :: h.nm ++ (told h ps).flatMap att ++ z).length < 1000:=fun z hz => by
  rw [<- told_cat,List.length_append,List.length_append,List.length_append,List.length_cons]; lia
 refine ok_r1 rfl rfl fun P kk => elo_ok (psel t (by kernel_rfl)) (ca_ok pn (el_ok (add_T (b:=h.nm) (a:=[60]) (head_lt z1)) (elo_ok (items_ref hN) (loopT1 (keep_ref hN) ps (60 :: h.nm) _ _ hp z1 fun y5 y6 => elo_ok (psel t (by kernel_rfl)) (ca_ok pa (elo_ok rfl (loopT2 t rfl H.8 _ _ f.atl z2 fun y7 => ?_)))))))
 rw [told_cat]
 unfold tagT at kk
 cases e with
 | true => exact br_t rfl (el_ok (add_T (z3 _ (by decide))) kk)
 | false => exact br_f rfl (el_ok (add_T (z3 _ (by decide))) kk)
noncomputable def bodyS:CSs:=(.cons (.setitem (.var 2) (.var 3) (.var 4)) .nil)
theorem loopS {M:Nat} {kp:St -> Bool} (hk:∀ s,kp (σ ++ [.dict (scL s)]) = true) (l:List Pr):∀ (s:Sp) (x3 x4:Option V),s.length + l.length < 900000 -> (∀ y3 y4,N ⟨cx1 wf n,P⟩ [some (.ref d),some (.ref M),some (.ref σ.length),y3,y4] (σ ++ [.dict (scL (puts s l))])) ->
  forP kp (B2 3 4 bodyS) (pairV l) ⟨cx1 wf n,P⟩ [some (.ref d),some (.ref M),some (.ref σ.length),x3,x4] (σ ++ [.dict (scL s)]) N:=by
 induction l with
 | nil => exact fun s x3 x4 _ kk => ⟨hk s,kk x3 x4⟩
 | cons w l ih =>
  intro s x3 x4 hl kk
  have sr:=set_ref (σ:=σ ++ [.dict (scL s)]) (d:=σ.length) (s:=s) (p:=w.1) (u:=w.2) app_get (head_lt hl)
  rw [app_set] at sr
  exact ⟨hk s,elo_ok sr (ih (put s w.1 w.2) _ _ (put_le hl) kk)⟩
theorem inner_ok {M:Nat} {ps:List Pr} (hd:σ[d]? = some (.dict (scL s))) (hN:σ[M]? = some (.list (pairV ps))) (hs:s.length + ps.length < 900000) :
  Ok (R1 wf (n + 1) 136 [.ref d,.ref M] [] σ) (.ref σ.length) (σ ++ [.dict (scL (puts s ps))]) :=
 have hN':∀ s,(σ ++ [Cell.dict (scL s)])[M]? = some (.list (pairV ps)):=fun s => get_app hN
 ok_r1 rfl rfl fun P kk => el_ok (dict_ref hd (by rw [scL_len]; exact Nat.le_of_lt (big9 (head_lt hs)))) (elo_ok (items_ref (hN' s)) (loopS (fun s => keep_ref (hN' s)) ps s none none hs fun _ _ => kk))
theorem plain_ok {lf:Leaf} (t:IsT σ k rows) (hi:rows[i]? = some r) (H:LeafR r lf) (o:OkK lf):Ok (R1 wf (n + 4) 117 [.ref k,iv i] [] σ) (.str (T (lfT lf))) σ:=by
 obtain ⟨p,rfl⟩:∃ p,r = leafRow lf p:=⟨_,H⟩
 have pk:=pkind (wf:=wf) (n:=n + 1) t hi
 have pn:=pname (wf:=wf) (n:=n + 1) t hi
 have pv:=pval (wf:=wf) (n:=n + 1) t hi
 refine ok_r1 rfl rfl fun P kk => elo_ok (psel t (by kernel_rfl)) (ca_ok pk ?_)
 cases lf with
 | tx v => exact elo_ok (eqs_t rfl) (br_t rfl (elo_ok (psel t (by kernel_rfl)) (ca_ok pv (ca_ok (escaped_text (Nat.le_trans o.len (by decide))) kk))))
 | cm v => exact elo_ok (eqs_f (sne (by kernel_rfl))) (br_f rfl (elo_ok (eqs_t rfl) (br_t rfl (elo_ok (psel t (by kernel_rfl)) (ca_ok pv (ca_ok (comment_ok o) kk))))))
 | pi x v =>
  obtain ⟨rfl,o2⟩:=o
  exact elo_ok (eqs_f (sne (by kernel_rfl))) (br_f rfl (elo_ok (eqs_f (sne (by kernel_rfl))) (br_f rfl (elo_ok (eqs_t rfl) (br_t rfl (elo_ok (psel t (by kernel_rfl)) (ca_ok pn (elo_ok (psel t (by kernel_rfl)) (ca_ok pv (ca_ok (instr_ok o2) kk))))))))))
end
noncomputable def FitF:Fo -> Prop
 | .nil => True
 | .lf _ k r => OkK k /\ FitF r
 | .el _ h c r => Fit h /\ FitF c /\ FitF r
noncomputable def isNil:Fo -> Bool
 | .nil => true
 | .lf .. => false
 | .el .. => false
noncomputable def closeT (h:Head):Tx:=[60,47] ++ h.nm ++ [62]
noncomputable def pcs:Sp -> Fo -> List Tx
 | _,.nil => []
 | s,.lf _ k r => lfT k :: pcs s r
 | s,.el _ h c r => tagT h (decl s h).2 (isNil c) :: (pcs (puts s (decl s h).2) c ++ (if isNil c then [] else [closeT h])) ++ pcs s r
noncomputable def itr:Fo -> Nat
 | .nil => 0
 | .lf _ _ r => itr r + 1
 | .el _ _ c r => itr c + ((if isNil c then 0 else 1) + itr r) + 1
theorem ite01 {b:Bool}:(if b then 0 else 1) <= 1:=by cases b <;> decide
theorem itr_cnt {f:Fo}:itr f <= 2 * cnt f:=by
 induction f with
 | nil => exact Nat.le_refl _
 | lf _ _ r ih => show itr r + 1 <= 2 * (cnt r + 1); lia
 | el _ _ c r ih ih2 =>
  show itr c + (_ + itr r) + 1 <= 2 * (cnt c + cnt r + 1)
  have:=ite01 (b:=isNil c)
  lia
theorem isNil_ids {f:Fo}:(ids f = []) ↔ isNil f = true:=by
 cases f with
 | nil => exact ⟨fun _ => rfl,fun _ => rfl⟩
 | lf => exact ⟨nofun,nofun⟩
 | el => exact ⟨nofun,nofun⟩
theorem Fit.decl {h:Head} (f:Fit h) (s:Sp):(decl s h).2.length <= 8 /\ ∀ p ∈ (decl s h).2,p.1.length < 10 /\ p.2.length < 10:=by
 obtain ⟨m,e,hm,lm⟩:=wants_pre (l:=wantsOf h) (st:=(puts s h.ns,h.ns))
 have e:(Mine.decl s h).2 = h.ns ++ m:=e
 rw [e,List.length_append]
 exact ⟨Nat.add_le_add f.nsl (Nat.le_trans lm (wants_len f.al)),fun p hp => (List.mem_append.mp hp).elim (fun hp => (f.ns p hp).2) fun hp => (f.ws p (hm p hp)).2.2⟩
noncomputable def Grow (N:Nat) (σ σ':St):Prop:=σ.length <= σ'.length /\ (∀ i:Nat,i < N -> σ'[i]? = σ[i]?) /\ ∀ (d:Nat) l,σ[d]? = some (.dict l) -> σ'[d]? = some (.dict l)
section
variable {N:Nat} {σ σ' σ'' ext:St} {c:Cell} {i:Nat}
theorem Grow.refl:Grow N σ σ:=⟨Nat.le_refl _,fun _ _ => rfl,fun _ _ h => h⟩
theorem Grow.trans (a:Grow N σ σ') (b:Grow N σ' σ''):Grow N σ σ'':=⟨Nat.le_trans a.1 b.1,fun i hi => (b.2.1 i hi).trans (a.2.1 i hi),fun d l h => b.2.2 d l (a.2.2 d l h)⟩
theorem Grow.app (h:N <= σ.length):Grow N σ (σ ++ ext):=⟨by rw [List.length_append]; exact Nat.le_add_right _ _,fun i hi => List.getElem?_append_left (Nat.lt_of_lt_of_le hi h),fun d l e => get_app e⟩
theorem Grow.set {l:List V} (h:N <= i) (e:σ[i]? = some (.list l)):Grow N σ (σ.set i c):=⟨Nat.le_of_eq List.length_set.symm,fun j hj => List.getElem?_set_ne (Ne.symm (Nat.ne_of_lt (Nat.lt_of_lt_of_le hj h))),fun d m e' => by
 by_cases z:i = d
 ·subst z; rw [e] at e'; cases e'
 ·rw [List.getElem?_set_ne z]; exact e'⟩
theorem Grow.tree {k:Nat} {rows:List Row} (g:Grow N σ σ') (h:k < N) (t:IsT σ k rows):IsT σ' k rows:=⟨(g.2.1 k h).trans t.1,t.2⟩
theorem take_grow (g:Grow σ.length σ σ'):σ'.take σ.length = σ:=by
 apply List.ext_getElem?
 intro j
 by_cases h:j < σ.length
 ·rw [List.getElem?_take_of_lt h]; exact g.2.1 j h
 ·rw [List.getElem?_eq_none (Nat.le_of_not_lt h),List.getElem?_eq_none (Nat.le_trans (List.length_take_le ..) (Nat.le_of_not_lt h))]
theorem dropF_grow {v:V} (g:Grow σ.length σ σ') (hv:v.closed σ.length = true) (hc:σ.all (Cell.closed σ.length) = true):dropF true σ v σ' = σ:=by
 rw [dropT ⟨g.1,hv,by rw [take_grow g]; exact hc⟩,take_grow g]
end
structure WS (M k:Nat) (rows:List Row) (σ:St) (L:Nat) (acc:List Tx) (stk:List V):Prop where
 t:IsT σ k rows
 f:σ[M]? = some (.list (strVy acc))
 l:σ[L]? = some (.list stk)
 ne:M < L
 kN:k < M
noncomputable abbrev Ents (σ:St) (s:Sp):List Nat -> List V -> Prop:=All2 fun i e => ∃ d,e = .tup [iv i,.ref d] /\ σ[d]? = some (.dict (scL s))
theorem Ents.mono {N:Nat} {σ σ':St} {s:Sp} (g:Grow N σ σ') {is es} (h:Ents σ s is es):Ents σ' s is es:=All2.mono (fun _ _ h => by obtain ⟨d,e1,e2⟩:=h; exact ⟨d,e1,g.2.2 _ _ e2⟩) h
theorem Ents.same {σ:St} {s:Sp} {d:Nat} (e:σ[d]? = some (.dict (scL s))) {is:List Nat}:Ents σ s is (is.map fun i => .tup [iv i,.ref d]):=by
 induction is with
 | nil => exact .nil
 | cons i is ih => exact .cons ⟨d,rfl,e⟩ ih
theorem fm_congr {α β:Type} {f g:α -> Option β} {l:List α} (h:∀ x ∈ l,f x = g x):l.filterMap f = l.filterMap g:=by
 induction l with
 | nil => rfl
 | cons a l ih => rw [List.filterMap_cons,List.filterMap_cons,h a (.head _),ih fun x hx => h x (.tail _ hx)]
theorem sliceV_rev (l:List V):sliceV l none none (some (-1)) = l.reverse:=by
 have key:∀ m,m <= l.length -> ((List.range m).filterMap fun k => l[l.length - 1 - k]?) = l.reverse.take m:=by
  intro m
  induction m with
  | zero => exact fun _ => rfl
  | succ m ih =>
   intro hm
   rw [List.range_succ,List.filterMap_append,ih (Nat.le_of_succ_le hm),List.take_add_one,List.getElem?_reverse hm]
   congr 1
 have:=key l.length (Nat.le_refl _)
 rw [List.take_of_length_le (Nat.le_of_eq List.length_reverse)] at this
 rw [<- this]
 unfold sliceV sliceBounds sliceRange
 simp
 by_cases z:l.length = 0
 ·rw [List.length_eq_zero_iff] at z; subst z; simp
 ·rw [if_pos (by lia),Int.toNat_natCast]
  refine fm_congr fun k hk => ?_
  have:=List.mem_range.mp hk
  show l[((l.length:Int) - 1 + -(k:Int)).toNat]? = _
  congr 1; lia
theorem slice_rev {l:List V} {σ:St} (h:l.length < 900000):sliceF false (.lst l) .none .none (.int (-1)) σ = .ok (.lst l.reverse) σ:=by
 show (if (some (-1:Int)) ≠ some 0 /\ l.length <= big then okL false (sliceV l none none (some (-1))) σ else .bad) = _
 rw [if_pos ⟨by decide,Nat.le_of_lt (big9 h)⟩,sliceV_rev]
 exact okL_ok (by rw [List.length_reverse]; exact Nat.le_of_lt (big9 h))
theorem slice_ivs {l:List Nat} {σ:St} (h:l.length < 900000):sliceF false (.lst (ivs l)) .none .none (.int (-1)) σ = .ok (.lst (ivs l.reverse)) σ:=by
 rw [slice_rev (by rw [ivs_len]; exact h),ivs,ivs,List.map_reverse]
noncomputable def testW:CE:=(.cmp (.var 4) [.NotEq] (.cons (.list false .nil) .nil))
noncomputable def bodyW:CSs:=(.cons (.asg2 5 6 (.meth false (.var 4) "pop" [] (some .pop) .nil [] .nil)) (.cons (.ite (.cmp (.var 6) [.Is] (.cons (.const (.none)) .nil)) (.cons (.expr (.meth false (.var 3) "append" [] (some .append) (.cons (.bin false .Add (.bin false .Add (.const (.str (T [60,47]))) (.meth false (.var 0) "name" [(536,463)] .none (.cons (.var 5) .nil) [] .nil)) (.const (.str (T [62])))) .nil) [] .nil)) .nil) (.cons (.ite (.cmp (.meth false (.var 0) "kind" [(536,456)] .none (.cons (.var 5) .nil) [] .nil) [.NotEq] (.cons (.const (.str "element")) .nil)) (.cons (.expr (.meth false (.var 3) "append" [] (some .append) (.cons (.fn 117 (.cons (.var 0) (.cons (.var 5) .nil)) [] .nil) .nil) [] .nil)) .nil) (.cons (.asg 7 (.fn 122 (.cons (.var 0) (.cons (.var 5) (.cons (.var 6) .nil))) [] .nil)) (.cons (.asg 8 (.meth false (.var 0) "children" [(536,498)] .none (.cons (.var 5) .nil) [] .nil)) (.cons (.expr (.meth false (.var 3) "append" [] (some .append) (.cons (.fn 129 (.cons (.var 0) (.cons (.var 5) (.cons (.var 7) (.cons (.cmp (.var 8) [.Eq] (.cons (.list false .nil) .nil)) .nil)))) [] .nil) .nil) [] .nil)) (.cons (.ite (.cmp (.var 8) [.NotEq] (.cons (.list false .nil) .nil)) (.cons (.asg 9 (.fn 136 (.cons (.var 6) (.cons (.var 7) .nil)) [] .nil)) (.cons (.expr (.meth false (.var 4) "append" [] (some .append) (.cons (.tup (.cons (.var 5) (.cons (.const (.none)) .nil))) .nil) [] .nil)) (.cons (.asg 4 (.bin true .Add (.var 4) (.comp false (.slice false (.var 8) (.const (.none)) (.const (.none)) (.neg (.const (.int 1)))) [9] (.tup (.cons (.var 0) (.cons (.var 1) .nil)))))) .nil))) .nil) .nil))))) .nil)) .nil))
noncomputable abbrev frW (k:Nat) (a2 a3:V) (M L:Nat) (x5 x6 x7 x8 x9:Option V):Fr:=[some (.ref k),some a2,some a3,some (.ref M),some (.ref L),x5,x6,x7,x8,x9]
section
variable {wf n k M L i d:Nat} {σ:St} {rows:List Row} {r:Row} {lf:Leaf} {h:Head} {ch:List Nat} {lo:Nat} {a2 a3:V} {acc:List Tx} {stk base:List V} {x5 x6 x7 x8 x9:Option V} {P:PX} {N:KN} {K:KE} {e:EE} {fr:Fr} {s:Sp}
theorem strV_snoc {l:List Tx} {p:Tx}:strVy (l ++ [p]) = strVy l ++ [.str (T p)]:=List.map_append
theorem eqL_nil {σ:St} {l:List V} {a:V} (e:getL σ a = some l) (hl:l ≠ []):eqQ σ a (.lst []) = some false:=by
 unfold eqQ
 rw [e]
 exact if_pos fun h => hl (List.length_eq_zero_iff.mp h)
theorem eqL_nil0 {σ:St} {a:V} (e:getL σ a = some []):eqQ σ a (.lst []) = some true:=by
 unfold eqQ
 rw [e]; rfl
theorem ne_nil {a:V} {l:List V} (e:getL σ a = some l) (hl:l ≠ []):cmpQ σ .NotEq a (.lst []) = some true:=congrArg (Option.map not) (eqL_nil e hl)
theorem ne_nil0 {a:V} (e:getL σ a = some []):cmpQ σ .NotEq a (.lst []) = some false:=congrArg (Option.map not) (eqL_nil0 e)
theorem eq_nl {l:List V} (hl:l ≠ []):cmpQ σ .Eq (.lst l) (.lst []) = some false:=eqL_nil (σ:=σ) (a:=.lst l) (l:=l) rfl hl
theorem eq_nl0:cmpQ σ .Eq (.lst []) (.lst []) = some true:=eqL_nil0 (σ:=σ) (a:=.lst []) rfl
theorem ne_nl {l:List V} (hl:l ≠ []):cmpQ σ .NotEq (.lst l) (.lst []) = some true:=ne_nil (σ:=σ) (a:=.lst l) rfl hl
theorem ne_nl0:cmpQ σ .NotEq (.lst []) (.lst []) = some false:=ne_nil0 (σ:=σ) (a:=.lst []) rfl
theorem while_end {N:KN} (w:WS M k rows σ L acc []) {m:Nat} (kk:N ⟨cx1 wf n,P⟩ (frW k a2 a3 M L x5 x6 x7 x8 x9) σ):whileP (ev testW) (evSs bodyW) (m + 1) ⟨cx1 wf n,P⟩ (frW k a2 a3 M L x5 x6 x7 x8 x9) σ N:=elo_ok (ne_nil0 (getL_ref w.l)) (br_f rfl kk)
theorem while_turn (w:WS M k rows σ L acc stk) (hs:stk ≠ []) {m:Nat} (kk:evSs bodyW ⟨cx1 wf n,P⟩ (frW k a2 a3 M L x5 x6 x7 x8 x9) σ fun e fr σ => whileP (ev testW) (evSs bodyW) m e fr σ N):whileP (ev testW) (evSs bodyW) (m + 1) ⟨cx1 wf n,P⟩ (frW k a2 a3 M L x5 x6 x7 x8 x9) σ N:=elo_ok (ne_nil (getL_ref w.l) hs) (br_t rfl kk)
theorem pop_step {v:V} (w:WS M k rows σ L acc (base ++ [v])) (hb:base.length < 900000) (kk:∀ σ',WS M k rows σ' L acc base -> Grow M σ σ' -> K v e fr σ'):El e fr (bmF false .pop (.ref L) [] σ) K:=by
 have g:Grow M σ (σ.set L (.list base)):=Grow.set (Nat.le_of_lt w.ne) w.l
 exact el_ok (pop_ref w.l (big9 hb)) (kk _ ⟨g.tree w.kN w.t,(List.getElem?_set_ne (Nat.ne_of_gt w.ne)).trans w.f,List.getElem?_set_self (lt_of_get w.l),w.ne,w.kN⟩ g)
theorem say_step {p:Tx} (w:WS M k rows σ L acc stk) (ha:acc.length < 900000) (kk:∀ σ',WS M k rows σ' L (acc ++ [p]) stk -> Grow M σ σ' -> (∀ j,j ≠ M -> σ'[j]? = σ[j]?) -> K .none e fr σ'):El e fr (bmF false .append (.ref M) [.str (T p)] σ) K:=by
 have g:Grow M σ (σ.set M (.list (strVy (acc ++ [p])))):=Grow.set (Nat.le_refl _) w.f
 have ap:=append_ref (mk:=false) (v:=.str (T p)) w.f (by rw [strV_len]; exact big9 ha)
 rw [<- strV_snoc] at ap
 exact el_ok ap (kk _ ⟨g.tree w.kN w.t,List.getElem?_set_self (lt_of_get w.f),(List.getElem?_set_ne (Nat.ne_of_lt w.ne)).trans w.l,w.ne,w.kN⟩ g fun j hj => List.getElem?_set_ne (Ne.symm hj))
theorem WS.grow {ext:St} (w:WS M k rows σ L acc stk):WS M k rows (σ ++ ext) L acc stk /\ Grow M σ (σ ++ ext):=by
 have g:Grow M σ (σ ++ ext):=Grow.app (Nat.le_of_lt (lt_of_get w.f))
 exact ⟨⟨g.tree w.kN w.t,get_app w.f,get_app w.l,w.ne,w.kN⟩,g⟩
theorem decl_step (w:WS M k rows σ L acc stk) (hi:rows[i]? = some r) (H:HeadR rows lo r h ch) (f:Fit h) (hd:σ[d]? = some (.dict (scL s))) (hs:s.length < 800000) (kk:∀ D σ',WS M k rows σ' L acc stk -> Grow M σ σ' -> σ'[D]? = some (.list (pairV (decl s h).2)) -> D ≠ M -> K (.ref D) e fr σ'):Ca (R1 wf (n + 3) 122 [.ref k,iv i,.ref d] [] σ) e fr K:=by
 obtain ⟨w',g⟩:=w.grow (ext:=[.list (pairV (decl s h).2),.dict (scL (decl s h).1),.list (pairV (wantsOf h))])
 exact ca_ok (declared_ok w.t hi H f hd hs) (kk _ _ w' g s3_0 (Nat.ne_of_gt (lt_of_get w.f)))
theorem inner_step {D:Nat} {ps:List Pr} (w:WS M k rows σ L acc stk) (hd:σ[d]? = some (.dict (scL s))) (hN:σ[D]? = some (.list (pairV ps))) (hs:s.length + ps.length < 900000) (kk:∀ D' σ',WS M k rows σ' L acc stk -> Grow M σ σ' -> σ'[D']? = some (.dict (scL (puts s ps))) -> K (.ref D') e fr σ'):Ca (R1 wf (n + 1) 136 [.ref d,.ref D] [] σ) e fr K:=by
 obtain ⟨w',g⟩:=w.grow (ext:=[.dict (scL (puts s ps))])
 exact ca_ok (inner_ok hd hN hs) (kk _ _ w' g app_get)
theorem push_step {v:V} (w:WS M k rows σ L acc stk) (hb:stk.length < 900000) (kk:∀ σ',WS M k rows σ' L acc (stk ++ [v]) -> Grow M σ σ' -> K .none e fr σ'):El e fr (bmF false .append (.ref L) [v] σ) K:=by
 have g:Grow M σ (σ.set L (.list (stk ++ [v]))):=Grow.set (Nat.le_of_lt w.ne) w.l
 exact el_ok (append_ref w.l (big9 hb)) (kk _ ⟨g.tree w.kN w.t,(List.getElem?_set_ne (Nat.ne_of_gt w.ne)).trans w.f,List.getElem?_set_self (lt_of_get w.l),w.ne,w.kN⟩ g)
theorem join_step {X:List V} (w:WS M k rows σ L acc stk) (hb:(stk ++ X).length < 900000) (kk:∀ L' σ',WS M k rows σ' L' acc (stk ++ X) -> Grow M σ σ' -> K (.ref L') e fr σ'):El e fr (binF true .Add (.ref L) (.lst X) σ) K:=by
 obtain ⟨w',g⟩:=w.grow (ext:=[.list (stk ++ X)])
 have a:binF true .Add (.ref L) (.lst X) σ = .ok (.ref σ.length) (σ ++ [.list (stk ++ X)]):=oO_some (o:=getL σ (.ref L)) (getL_ref w.l) (oO_some (o:=some X) rfl (okL_mk (Nat.le_of_lt (big9 hb))))
 exact el_ok a (kk _ _ ⟨w'.t,w'.f,app_get,lt_of_get w.f,w'.kN⟩ g)
theorem turn_close (w:WS M k rows σ L acc (base ++ [.tup [iv i,.none]])) (hi:rows[i]? = some r) (H:HeadR rows lo r h ch) (f:Fit h) (hb:base.length < 900000) (ha:acc.length < 900000)
  (kk:∀ y5 y6 σ',WS M k rows σ' L (acc ++ [closeT h]) base -> Grow M σ σ' -> N ⟨cx1 wf (n + 4),P⟩ (frW k a2 a3 M L y5 y6 x7 x8 x9) σ'):evSs bodyW ⟨cx1 wf (n + 4),P⟩ (frW k a2 a3 M L x5 x6 x7 x8 x9) σ N:=by
 refine elo_ok (selF_pop w.l) (pop_step w hb fun σ1 w1 g1 => elo_ok (a:=true) rfl (br_t rfl (elo_ok (selF_append w1.f) (elo_ok (psel w1.t (by kernel_rfl)) ?_))))
 have pn:=pname (wf:=wf) (n:=n + 2) w1.t hi
 rw [H.name] at pn
 have ln:([60,47] ++ h.nm ++ [62]).length < 1000:=by rw [List.length_append,List.length_append]; exact Nat.lt_trans (Nat.add_lt_add_right (Nat.add_lt_add_left f.nm 2) 1) (by decide)
 exact ca_ok pn (el_ok (add_T (pre_lt ln)) (el_ok (add_T ln) (say_step w1 ha fun σ2 w2 g2 _ => kk _ _ σ2 w2 (g1.trans g2))))
theorem turn_leaf (w:WS M k rows σ L acc (base ++ [.tup [iv i,.ref d]])) (hi:rows[i]? = some r) (H:LeafR r lf) (o:OkK lf) (hb:base.length < 900000) (ha:acc.length < 900000)
  (kk:∀ y5 y6 σ',WS M k rows σ' L (acc ++ [lfT lf]) base -> Grow M σ σ' -> N ⟨cx1 wf (n + 4),P⟩ (frW k a2 a3 M L y5 y6 x7 x8 x9) σ'):evSs bodyW ⟨cx1 wf (n + 4),P⟩ (frW k a2 a3 M L x5 x6 x7 x8 x9) σ N :=
 elo_ok (selF_pop w.l) (pop_step w hb fun σ1 w1 g1 => elo_ok (a:=false) rfl (br_f rfl (elo_ok (psel w1.t (by kernel_rfl)) (ca_ok (pkind w1.t hi) (elo_ok (nes_t (by rw [H]; exact leaf_el)) (br_t rfl
  (elo_ok (selF_append w1.f) (ca_ok (plain_ok w1.t hi H o) (say_step w1 ha fun σ2 w2 g2 _ => kk _ _ σ2 w2 (g1.trans g2))))))))))
theorem rev_go {D:Nat} {K:List V -> EE -> Fr -> St -> Prop} (js:List Nat):∀ (acc:List V),acc.length + js.length < 900000 -> K (acc ++ js.map fun i => .tup [iv i,.ref D]) ⟨cx1 wf n,P⟩ fr σ ->
  compP (fun _ => true) (fun x σ R => ev (.tup (.cons (.var 0) (.cons (.var 1) .nil))) (EE.to ⟨cx1 wf n,P⟩ fun y σ => R (some y) σ) [some x,some (.ref D)] σ retN) (ivs js) acc ⟨cx1 wf n,P⟩ fr σ K:=by
 induction js with
 | nil => exact fun acc _ kk => ⟨rfl,by rwa [List.map_nil,List.append_nil] at kk⟩
 | cons j js ih =>
  intro acc hl kk
  have:=ih (acc ++ [V.tup [iv j,.ref D]]) (snoc_le hl) (by rw [List.append_assoc]; exact kk)
  exact ⟨⟨rfl,Nat.le_of_lt (big9 (head_lt hl))⟩,this⟩
theorem turn_el0 (w:WS M k rows σ L acc (base ++ [.tup [iv i,.ref d]])) (hi:rows[i]? = some r) (H:HeadR rows lo r h []) (f:Fit h) (hd:σ[d]? = some (.dict (scL s))) (hs:s.length < 800000) (hb:base.length < 900000) (ha:acc.length < 900000)
  (kk:∀ y5 y6 y7 y8 σ',WS M k rows σ' L (acc ++ [tagT h (decl s h).2 true]) base -> Grow M σ σ' -> N ⟨cx1 wf (n + 4),P⟩ (frW k a2 a3 M L y5 y6 y7 y8 x9) σ'):evSs bodyW ⟨cx1 wf (n + 4),P⟩ (frW k a2 a3 M L x5 x6 x7 x8 x9) σ N:=by
 refine elo_ok (selF_pop w.l) (pop_step w hb fun σ1 w1 g1 => elo_ok (a:=false) rfl (br_f rfl (elo_ok (psel w1.t (by kernel_rfl)) (ca_ok (pkind w1.t hi) (elo_ok (nes_f H.kind) (br_f rfl (decl_step w1 hi H f (g1.2.2 _ _ hd) hs fun D σ2 w2 g2 hN _ => ?_)))))))
 obtain ⟨f1,f2⟩:=f.decl s
 have pc:=pch (wf:=wf) (n:=n + 2) w2.t hi (by rw [H.6]; exact Nat.zero_le _)
 rw [H.6] at pc
 exact elo_ok (psel w2.t (by kernel_rfl)) (ca_ok pc (elo_ok (selF_append w2.f) (elo_ok eq_nl0 (ca_ok (tag_ok w2.t hi H f hN f2 f1) (say_step w2 ha fun σ3 w3 g3 _ => elo_ok ne_nl0 (br_f rfl (kk _ _ _ _ σ3 w3 ((g1.trans g2).trans g3))))))))
theorem turn_el1 {cs:List Nat} (w:WS M k rows σ L acc (base ++ [.tup [iv i,.ref d]])) (hi:rows[i]? = some r) (H:HeadR rows lo r h cs) (hc:cs ≠ []) (lc:cs.length < 400000) (f:Fit h) (hd:σ[d]? = some (.dict (scL s))) (hs:s.length < 700000) (hb:base.length < 400000) (ha:acc.length < 900000)
  (kk:∀ y5 y6 y7 y8 y9 L' D σ',WS M k rows σ' L' (acc ++ [tagT h (decl s h).2 false]) ((base ++ [.tup [iv i,.none]]) ++ (cs.map fun j => V.tup [iv j,.ref D]).reverse) -> Grow M σ σ' -> σ'[D]? = some (.dict (scL (puts s (decl s h).2))) -> N ⟨cx1 wf (n + 4),P⟩ (frW k a2 a3 M L' y5 y6 y7 y8 y9) σ'):evSs bodyW ⟨cx1 wf (n + 4),P⟩ (frW k a2 a3 M L x5 x6 x7 x8 x9) σ N:=by
 have lb:base.length < 900000:=Nat.lt_trans hb (by decide)
 have lc9:cs.length < 900000:=Nat.lt_trans lc (by decide)
 have nz:ivs cs ≠ []:=fun h => hc (List.map_eq_nil_iff.mp h)
 obtain ⟨f1,f2⟩:=f.decl s
 refine elo_ok (selF_pop w.l) (pop_step w lb fun σ1 w1 g1 => elo_ok (a:=false) rfl (br_f rfl (elo_ok (psel w1.t (by kernel_rfl)) (ca_ok (pkind w1.t hi) (elo_ok (nes_f H.kind) (br_f rfl (decl_step w1 hi H f (g1.2.2 _ _ hd) (Nat.lt_trans hs (by decide)) fun A σ2 w2 g2 hN dN => ?_)))))))
 have pc:=pch (wf:=wf) (n:=n + 2) w2.t hi (by rw [H.6]; exact Nat.le_of_lt (big9 lc9))
 rw [H.6] at pc
 refine elo_ok (psel w2.t (by kernel_rfl)) (ca_ok pc (elo_ok (selF_append w2.f) (elo_ok (eq_nl nz) (ca_ok (tag_ok w2.t hi H f hN f2 f1) (say_step w2 ha fun σ3 w3 g3 sm => elo_ok (ne_nl nz) (br_t rfl ?_))))))
 have G3:=(g1.trans g2).trans g3
 refine inner_step w3 (G3.2.2 _ _ hd) ((sm _ dN).trans hN) (Nat.lt_of_lt_of_le (Nat.add_lt_add_of_lt_of_le hs f1) (by decide)) fun D σ4 w4 g4 hD => elo_ok (selF_append w4.l) (push_step w4 lb fun σ5 w5 g5 => el_ok (slice_ivs lc9) (elo_ok rfl (rev_go cs.reverse [] (by rw [List.length_reverse,List.length_nil,Nat.zero_add]; exact lc9) ?_)))
 rw [List.nil_append,List.map_reverse]
 exact el_ok (okL_ok (by rw [List.length_reverse,List.length_map]; exact Nat.le_of_lt (big9 lc9))) (join_step w5 (by rw [List.length_append,List.length_append,List.length_reverse,List.length_map]; exact Nat.lt_trans (Nat.add_lt_add (Nat.succ_lt_succ hb) lc) (by decide)) fun L' σ6 w6 g6 => kk _ _ _ _ _ L' D σ6 w6 (((G3.trans g4).trans g5).trans g6) (g6.2.2 _ _ (g5.2.2 _ _ hD)))
theorem pcs_cnt {F:Fo}:∀ {s:Sp},(pcs s F).length <= 2 * cnt F:=by
 induction F with
 | nil => exact Nat.le_refl _
 | lf _ _ r ih => exact fun {s} => Nat.succ_le_succ (Nat.le_succ_of_le (ih (s:=s)))
 | el _ h c r ih ih2 =>
  intro s
  have h1:=ih (s:=puts s (decl s h).2)
  have h2:=ih2 (s:=s)
  have:(if isNil c then [] else [closeT h]).length <= 1:=by cases isNil c with | true => exact Nat.zero_le _ | false => exact Nat.le_refl 1
  show ((pcs (puts s (decl s h).2) c ++ (if isNil c then [] else [closeT h])) ++ pcs s r).length + 1 <= 2 * (cnt c + cnt r + 1)
  rw [List.length_append,List.length_append]
  lia
theorem write_go (F:Fo):∀ (s:Sp) (σ:St) (L:Nat) (acc:List Tx) (base es:List V) (x5 x6 x7 x8 x9:Option V) (m:Nat),FitF F -> Rep rows lo F -> WS M k rows σ L acc (base ++ es.reverse) -> Ents σ s (ids F) es -> s.length + 8 * cnt F < 600000 -> base.length + 2 * cnt F < 300000 -> acc.length + 2 * cnt F < 300000 ->
  (∀ σ' L' y5 y6 y7 y8 y9,WS M k rows σ' L' (acc ++ pcs s F) base -> Grow M σ σ' -> whileP (ev testW) (evSs bodyW) m ⟨cx1 wf (n + 4),P⟩ (frW k a2 a3 M L' y5 y6 y7 y8 y9) σ' N) ->
  whileP (ev testW) (evSs bodyW) (itr F + m) ⟨cx1 wf (n + 4),P⟩ (frW k a2 a3 M L x5 x6 x7 x8 x9) σ N:=by
 induction F with
 | nil =>
  intro s σ L acc base es x5 x6 x7 x8 x9 m _ _ w E _ _ _ kk
  cases E
  have kk:=kk σ L x5 x6 x7 x8 x9
  rw [pcs,List.append_nil] at kk
  rw [List.reverse_nil,List.append_nil] at w
  rw [itr,Nat.zero_add]
  exact kk w Grow.refl
 | lf i lf r ih =>
  intro s σ L acc base es x5 x6 x7 x8 x9 m f R w E n1 n2 n3 kk
  obtain ⟨⟨_,row,hi,H⟩,R⟩:=R
  cases E with
  | @cons _ e _ es h E =>
   obtain ⟨d,rfl,hd⟩:=h
   have le:=E.len
   have lc:=@ids_cnt r
   rw [cnt] at n1 n2 n3
   rw [List.reverse_cons,<- List.append_assoc] at w
   have lb:(base ++ es.reverse).length < 900000:=by rw [List.length_append,List.length_reverse]; lia
   rw [pcs,List.append_cons] at kk
   rw [itr,Nat.add_right_comm]
   exact while_turn w (List.append_ne_nil_of_right_ne_nil _ (List.cons_ne_nil _ _)) (turn_leaf w hi H f.1 lb (by lia) fun y5 y6 σ1 w1 g1 =>
    ih s σ1 L _ base es _ _ _ _ _ m f.2 R w1 (Ents.mono g1 E) (by lia) (by lia) (by rw [List.length_append]; show _ + 1 + _ < _; lia) fun σ2 L2 y5 y6 y7 y8 y9 w2 g2 => kk σ2 L2 y5 y6 y7 y8 y9 w2 (g1.trans g2))
 | el i h c r ihc ih =>
  intro s σ L acc base es x5 x6 x7 x8 x9 m f R w E n1 n2 n3 kk
  obtain ⟨⟨_,row,hi,H⟩,Rc,R⟩:=R
  obtain ⟨f1,f2,f3⟩:=f
  cases E with
  | @cons _ e _ es h' E =>
   obtain ⟨d,rfl,hd⟩:=h'
   have le:=E.len
   have lc:=@ids_cnt r
   have lcc:=@ids_cnt c
   have pcc:=@pcs_cnt c (puts s (decl s h).2)
   rw [cnt] at n1 n2 n3
   rw [List.reverse_cons,<- List.append_assoc] at w
   have lb:(base ++ es.reverse).length < 300000:=by rw [List.length_append,List.length_reverse]; lia
   have ne:=List.append_ne_nil_of_right_ne_nil (base ++ es.reverse) (List.cons_ne_nil (V.tup [iv i,.ref d]) [])
   by_cases z:ids c = []
   ·have cn:=ids_nil z
    subst cn
    rw [itr,show isNil .nil = true from rfl,if_pos rfl,Nat.zero_add,itr,Nat.zero_add,Nat.add_right_comm]
    rw [pcs,pcs,show isNil .nil = true from rfl,if_pos rfl,List.nil_append,List.cons_append,List.nil_append,List.append_cons] at kk
    exact while_turn w ne (turn_el0 w hi H f1 hd (by lia) (Nat.lt_trans lb (by decide)) (by lia) fun y5 y6 y7 y8 σ1 w1 g1 =>
     ih s σ1 L _ base es _ _ _ _ _ m f3 R w1 (Ents.mono g1 E) (by lia) (by lia) (by rw [List.length_append]; show _ + 1 + _ < _; lia) fun σ2 L2 y5 y6 y7 y8 y9 w2 g2 => kk σ2 L2 y5 y6 y7 y8 y9 w2 (g1.trans g2))
   ·have zn:isNil c = false:=Bool.eq_false_iff.mpr fun q => z (isNil_ids.mpr q)
    have c0:0 < cnt c:=Nat.lt_of_lt_of_le (List.length_pos_iff.mpr z) lcc
    have pl:=(f1.decl s).1
    have sp:=puts_len (l:=(decl s h).2) (s:=s)
    rw [itr,zn,if_neg Bool.false_ne_true,Nat.add_right_comm,Nat.add_assoc (itr c),Nat.add_comm 1,Nat.add_right_comm (itr r)]
    rw [pcs,zn,if_neg Bool.false_ne_true,List.cons_append,List.append_cons,<- List.append_assoc,<- List.append_assoc] at kk
    refine while_turn w ne (turn_el1 w hi H z (by lia) f1 hd (by lia) (Nat.lt_trans lb (by decide)) (by lia) fun y5 y6 y7 y8 y9 L1 D σ1 w1 g1 hD =>
     ihc (puts s (decl s h).2) σ1 L1 _ _ _ _ _ _ _ _ (itr r + m + 1) f2 Rc w1 (Ents.same hD) (by lia) (by rw [List.length_append,List.length_append,List.length_reverse]; show _ + _ + 1 + _ < _; lia) (by rw [List.length_append]; show _ + 1 + _ < _; lia) fun σ2 L2 z5 z6 z7 z8 z9 w2 g2 =>
     while_turn w2 (List.append_ne_nil_of_right_ne_nil _ (List.cons_ne_nil _ _)) (turn_close w2 hi H f1 (Nat.lt_trans lb (by decide)) (by rw [List.length_append,List.length_append]; show _ + 1 + _ < _; lia) fun u5 u6 σ3 w3 g3 =>
     ih s σ3 L2 _ base es _ _ _ _ _ m f3 R w3 (Ents.mono ((g1.trans g2).trans g3) E) (by lia) (by lia) (by rw [List.length_append,List.length_append,List.length_append]; show _ + 1 + _ + 1 + _ < _; lia) fun σ4 L4 v5 v6 v7 v8 v9 w4 g4 => kk σ4 L4 v5 v6 v7 v8 v9 w4 (((g1.trans g2).trans g3).trans g4)))
end
noncomputable def xmlU:Tx:=[104,116,116,112,58,47,47,119,119,119,46,119,51,46,111,114,103,47,88,77,76,47,49,57,57,56,47,110,97,109,101,115,112,97,99,101]
noncomputable def xmlS:Sp:=[([120,109,108],xmlU)]
noncomputable def decT:Tx:=[60,63,120,109,108,32,118,101,114,115,105,111,110,61,34,49,46,48,34,32,101,110,99,111,100,105,110,103,61,34,85,84,70,45,56,34,63,62,10]
theorem tag_len {h:Head} {ps:List Pr} {e:Bool} (f:Fit h) (hp:∀ p ∈ ps,p.1.length < 10 /\ p.2.length < 10) (hl:ps.length <= 8):(tagT h ps e).length <= 1000:=by
 have l1:((told h ps).flatMap att).length <= 90 * (told h ps).length:=atts_len fun q hq => by
  rcases List.mem_append.mp hq with hq | hq
  ·obtain ⟨w,hw,rfl⟩:=List.mem_map.mp hq
   exact ⟨xn_len (hp w hw).1,(hp w hw).2⟩
  ·obtain ⟨w,hw,rfl⟩:=List.mem_map.mp hq
   exact ⟨Nat.lt_trans (f.atl w hw).1 (by decide),Nat.lt_succ_of_le (f.atl w hw).2⟩
 have l2:(told h ps).length <= 10:=by rw [told,List.length_append,xns,ans,List.length_map,List.length_map]; exact Nat.add_le_add hl f.al
 have l3:(if e then [47,62] else [62]:Tx).length <= 2:=by cases e <;> decide
 have ln:=f.nm
 rw [tagT,List.length_append,List.length_append,List.length_cons]
 lia
theorem lf_len {lf:Leaf} (o:OkK lf):(lfT lf).length <= 1000:=by
 cases lf with
 | tx v => exact Nat.le_trans (esc_len escT_len v) (Nat.le_trans (Nat.mul_le_mul_left 6 o.len) (by decide))
 | cm v => exact (by decide:∀ v ∈ cmMenu,(lfT (.cm v)).length <= 1000) v o
 | pi t d => obtain ⟨rfl,o⟩:=o; exact (by decide:∀ d ∈ piMenu,(lfT (.pi [103,111] d)).length <= 1000) d o
theorem flats_len {l:List Tx} (h:∀ x ∈ l,x.length <= 1000):l.flatten.length <= 1000 * l.length:=by
 induction l with
 | nil => exact Nat.le_refl _
 | cons x l ih =>
  rw [List.flatten_cons,List.length_append,List.length_cons,Nat.mul_succ,Nat.add_comm]
  exact Nat.add_le_add (ih fun y hy => h y (.tail _ hy)) (h x (.head _))
theorem pcs_each {F:Fo}:∀ {s:Sp},FitF F -> ∀ x ∈ pcs s F,x.length <= 1000:=by
 induction F with
 | nil => exact fun _ x hx => nomatch hx
 | lf _ _ r ih => exact fun f x hx => (List.mem_cons.mp hx).elim (fun e => e ▸ lf_len f.1) (ih f.2 x)
 | el _ h c r ihc ih =>
  intro s f x hx
  have d:=f.1.decl s
  rcases List.mem_append.mp hx with hx | hx
  ·rcases List.mem_cons.mp hx with rfl | hx
   ·exact tag_len f.1 d.2 d.1
   ·rcases List.mem_append.mp hx with hx | hx
    ·exact ihc f.2.1 x hx
    ·cases hb:isNil c with
     | true => rw [hb] at hx; cases hx
     | false =>
      rw [hb] at hx
      rw [List.mem_singleton.mp hx,closeT,List.length_append,List.length_append]
      exact Nat.le_of_lt (Nat.lt_trans (Nat.add_lt_add_right (Nat.add_lt_add_left f.1.nm 2) 1) (by decide))
  ·exact ih f.2.2 x hx
noncomputable def text (F:Fo):Tx:=(pcs xmlS F).flatten
theorem text_len {F:Fo} (f:FitF F) (h:cnt F <= 400):(text F).length <= 800000 :=
 Nat.le_trans (flats_len (pcs_each (s:=xmlS) f)) (Nat.le_trans (Nat.mul_le_mul_left 1000 (Nat.le_trans pcs_cnt (Nat.mul_le_mul_left 2 h))) (by decide))
section
variable {wf n k M L:Nat} {σ:St} {rows:List Row} {lo:Nat} {F:Fo} {R:Row} {P:PX} {fr:Fr}
theorem All2.rev {α β:Type} {P:α -> β -> Prop} {l:List α} {m:List β} (x:All2 P l m):All2 P l.reverse m.reverse:=by
 induction x with
 | nil => exact .nil
 | cons h r ih => rw [List.reverse_cons,List.reverse_cons]; exact All2.snoc ih h
noncomputable def eltR:CE:=(.tup (.cons (.var 0) (.cons (.dict ["xml"] (.cons (.const (.str (T [104,116,116,112,58,47,47,119,119,119,46,119,51,46,111,114,103,47,88,77,76,47,49,57,57,56,47,110,97,109,101,115,112,97,99,101]))) .nil)) .nil)))
theorem xml_dict:[(("xml":Str),V.str (T xmlU))] = scL xmlS:=congrArg (fun s:Str => [(s,V.str (T xmlU))]) (show Str.ofString "xml" = T [120,109,108] by kernel_rfl)
theorem root_go {K:List V -> EE -> Fr -> St -> Prop} (js:List Nat):∀ (acc:List V) (σ:St),acc.length + js.length < 900000 -> (∀ es ext,Ents (σ ++ ext) xmlS js es -> K (acc ++ es) ⟨cx1 wf n,P⟩ fr (σ ++ ext)) ->
  compP (fun _ => true) (fun x σ R => ev eltR (EE.to ⟨cx1 wf n,P⟩ fun y σ => R (some y) σ) [some x] σ retN) (ivs js) acc ⟨cx1 wf n,P⟩ fr σ K:=by
 induction js with
 | nil => exact fun acc σ _ kk => ⟨rfl,by have:=kk [] [] .nil; rwa [List.append_nil,List.append_nil] at this⟩
 | cons j js ih =>
  intro acc σ hl kk
  have:=ih (acc ++ [V.tup [iv j,.ref σ.length]]) (σ ++ [.dict (scL xmlS)]) (snoc_le hl) fun es ext E => by
   rw [List.append_assoc] at E
   rw [List.append_assoc,List.append_assoc]
   exact kk _ _ (.cons ⟨σ.length,rfl,app_get⟩ E)
  rw [<- xml_dict] at this
  exact ⟨⟨rfl,Nat.le_of_lt (big9 (head_lt hl))⟩,rfl,this⟩
noncomputable def Same (σ σ':St):Prop:=σ.length <= σ'.length /\ ∀ i:Nat,i < σ.length -> σ'[i]? = σ[i]?
theorem drop_same {v:V} {σ':St} (g:Grow σ.length σ σ'):Same σ (dropF true σ v σ'):=by
 unfold dropF
 dsimp only
 split
 ·rw [take_grow g]; exact ⟨Nat.le_refl _,fun _ _ => rfl⟩
 ·exact ⟨g.1,g.2.1⟩
theorem write_main (b:Bool) {acc:List Tx} (la:acc.length <= 1) (la2:acc.flatten.length <= 100) (t:IsT σ k rows) (hR:rows[0]? = some R) (RR:RootR R F) (rep:Rep rows lo F) (f:FitF F) (hc:cnt F <= 400) (hw:1000 <= wf) (kk:∀ σ',Grow σ.length σ σ' -> P.ret (.str (T (acc.flatten ++ text F))) σ') :
  evSs (.cons (.ite (.cmp (.meth false (.var 0) "kind" [(536,456)] .none (.cons (.var 1) .nil) [] .nil) [.Eq] (.cons (.const (.str "root")) .nil)) (.cons (.asg 4 (.comp true (.slice false (.meth false (.var 0) "children" [(536,498)] .none (.cons (.var 1) .nil) [] .nil) (.const (.none)) (.const (.none)) (.neg (.const (.int 1)))) [] eltR)) .nil) (.cons (.asg 4 (.list true (.cons (.tup (.cons (.var 1) (.cons (.dict ["xml"] (.cons (.const (.str (T [104,116,116,112,58,47,47,119,119,119,46,119,51,46,111,114,103,47,88,77,76,47,49,57,57,56,47,110,97,109,101,115,112,97,99,101]))) .nil)) .nil))) .nil))) .nil)) (.cons (.while testW bodyW) (.cons (.ret (.meth false (.const (.str (T []))) "join" [] (some .join) (.cons (.var 3) .nil) [] .nil)) .nil))) ⟨cx1 wf (n + 4),P⟩ [some (.ref k),some (iv 0),some (.bool b),some (.ref σ.length),none,none,none,none,none,none] (σ ++ [Cell.list (strVy acc)]) endN:=by
 have lk:=lt_of_get t.1
 have li:(ids F).length <= 400:=Nat.le_trans ids_cnt hc
 have li9:(ids F).length < 900000:=Nat.lt_of_le_of_lt li (by decide)
 have t1:IsT (σ ++ [Cell.list (strVy acc)]) k rows:=ap_tree t
 have pc:=pch (wf:=wf) (n:=n + 2) t1 hR (by rw [RR.ch]; exact Nat.le_of_lt (big9 li9))
 rw [RR.ch] at pc
 refine elo_ok (psel t1 (by kernel_rfl)) (ca_ok (pkind t1 hR) (elo_ok (eqs_t RR.kind) (br_t rfl (elo_ok (psel t1 (by kernel_rfl)) (ca_ok pc (el_ok (slice_ivs li9) (elo_ok rfl (root_go (ids F).reverse [] _ (by rw [List.length_reverse,List.length_nil,Nat.zero_add]; exact li9) fun es ext E => ?_))))))))
 rw [List.nil_append]
 have le:=E.len
 rw [List.length_reverse] at le
 refine el_ok (okL_mk (Nat.le_of_lt (big9 (by rw [<- le]; exact li9)))) ?_
 have w0:WS σ.length k rows (σ ++ [Cell.list (strVy acc)] ++ ext ++ [Cell.list es]) (σ ++ [Cell.list (strVy acc)] ++ ext).length acc ([] ++ es.reverse.reverse):=by
  rw [List.reverse_reverse,List.nil_append]
  exact ⟨⟨get_app (get_app t1.1),t1.2⟩,get_app (get_app app_get),app_get,by rw [List.length_append,List.length_append]; exact Nat.lt_of_lt_of_le (Nat.lt_succ_self _) (Nat.le_add_right _ _),lk⟩
 have g0:Grow σ.length σ (σ ++ [Cell.list (strVy acc)] ++ ext ++ [Cell.list es]):=by
  rw [List.append_assoc,List.append_assoc]; exact Grow.app (Nat.le_refl _)
 have E0:Ents (σ ++ [Cell.list (strVy acc)] ++ ext ++ [Cell.list es]) xmlS (ids F) es.reverse:=by
  have:=E.rev
  rw [List.reverse_reverse] at this
  exact Ents.mono (N:=0) (Grow.app (Nat.zero_le _)) this
 have ic:itr F + 1 <= wf:=Nat.le_trans (Nat.succ_le_succ (Nat.le_trans itr_cnt (Nat.mul_le_mul_left 2 hc))) (Nat.le_trans (by decide) hw)
 have hm:wf = itr F + (wf - (itr F + 1) + 1):=by rw [<- Nat.add_assoc,Nat.add_right_comm,Nat.add_sub_cancel' ic]
 have go:=write_go (wf:=wf) (n:=n) (a2:=iv 0) (a3:=.bool b) (P:=P) (N:=fun e fr σ' => evSs (.cons (.ret (.meth false (.const (.str (T []))) "join" [] (some .join) (.cons (.var 3) .nil) [] .nil)) .nil) e fr σ' endN) F xmlS _ _ acc [] es.reverse none none none none none (wf - (itr F + 1) + 1) f rep w0 E0
  (Nat.lt_of_le_of_lt (Nat.add_le_add_left (Nat.mul_le_mul_left 8 hc) 1) (by decide)) (Nat.lt_of_le_of_lt (Nat.add_le_add_left (Nat.mul_le_mul_left 2 hc) 0) (by decide)) (Nat.lt_of_le_of_lt (Nat.add_le_add la (Nat.mul_le_mul_left 2 hc)) (by decide))
  fun σ2 L2 y5 y6 y7 y8 y9 w2 g2 => while_end w2 (elo_ok rfl (el_ok (join_ref w2.f (by rw [List.flatten_append,List.length_append]; exact Nat.le_trans (Nat.add_le_add la2 (text_len f hc)) (by decide))) (by rw [List.flatten_append]; exact kk _ (g0.trans g2))))
 rw [<- hm] at go
 exact go
theorem write_body (b:Bool) (t:IsT σ k rows) (hR:rows[0]? = some R) (RR:RootR R F) (rep:Rep rows lo F) (f:FitF F) (hc:cnt F <= 400) (hw:1000 <= wf) (kk:∀ σ',Grow σ.length σ σ' -> P.ret (.str (T ((if b then decT else []) ++ text F))) σ') :
  evSs c142.body ⟨cx1 wf (n + 4),P⟩ (frame [.ref k,iv 0,.bool b] 7) σ endN:=by
 cases b with
 | false => exact br_f rfl (write_main false (acc:=[]) (Nat.zero_le _) (Nat.zero_le _) t hR RR rep f hc hw kk)
 | true => exact br_t rfl (write_main true (acc:=[decT]) (Nat.le_refl 1) (by decide) t hR RR rep f hc hw (by rw [List.flatten_singleton]; exact kk))
theorem write_plain {K:V -> St -> Prop} {X:Addr -> St -> Prop} (t:IsT σ k rows) (hR:rows[0]? = some R) (RR:RootR R F) (rep:Rep rows lo F) (f:FitF F) (hc:cnt F <= 400) (hw:1000 <= wf) (kk:∀ σ',Same σ σ' -> K (.str (T (text F))) σ') :
  R1 wf (n + 5) 142 [.ref k,iv 0] [] σ K X:=r1_of rfl rfl fun P hr _ => write_body false t hR RR rep f hc hw fun σ' g => hr _ _ (kk _ (drop_same g))
theorem write_decl {K:V -> St -> Prop} {X:Addr -> St -> Prop} (t:IsT σ k rows) (hR:rows[0]? = some R) (RR:RootR R F) (rep:Rep rows lo F) (f:FitF F) (hc:cnt F <= 400) (hw:1000 <= wf) (kk:∀ σ',Same σ σ' -> K (.str (T (decT ++ text F))) σ') :
  R1 wf (n + 5) 142 [.ref k,iv 0] [("declaration",.bool true)] σ K X:=r1_of rfl rfl fun P hr _ => write_body true t hR RR rep f hc hw fun σ' g => hr _ _ (kk _ (drop_same g))
end
noncomputable def refTbl:List (Tx × Nat):=[([97,109,112],38),([108,116],60),([103,116],62),([113,117,111,116],34),([35,57],9),([35,49,48],10),([35,49,51],13)]
noncomputable def Enc (p:Tx × Nat):Prop:=(p.1 = [p.2] /\ p.2 ≠ 38) \/ ∃ b,p.1 = 38 :: b ++ [59] /\ (b,p.2) ∈ refTbl
theorem enc_if {c d:Nat} {b x:Tx} (h:(b,d) ∈ refTbl) (g:¬ c = d -> Enc (x,c)):Enc (if c = d then 38 :: b ++ [59] else x,c):=by
 by_cases e:c = d
 ·rw [if_pos e,e]; exact .inr ⟨b,rfl,h⟩
 ·rw [if_neg e]; exact g e
theorem enc_T (c:Nat):Enc (escT c,c):=enc_if (b:=[97,109,112]) (by decide) fun h => enc_if (b:=[108,116]) (by decide) fun _ => enc_if (b:=[103,116]) (by decide) fun _ => enc_if (b:=[35,49,51]) (by decide) fun _ => .inl ⟨rfl,h⟩
theorem enc_V (c:Nat):Enc (escV c,c):=enc_if (b:=[97,109,112]) (by decide) fun h => enc_if (b:=[108,116]) (by decide) fun _ => enc_if (b:=[113,117,111,116]) (by decide) fun _ => enc_if (b:=[35,57]) (by decide) fun _ => enc_if (b:=[35,49,48]) (by decide) fun _ => enc_if (b:=[35,49,51]) (by decide) fun _ => .inl ⟨rfl,h⟩
section
variable {σ:St} {x p q r:Tx} {a b c:Nat} {z y:Int}
theorem line9 (h:x.length < 900000):(T x).length <= sizeLine:=by rw [T_length]; exact Nat.le_trans (Nat.le_of_lt (big9 h)) big_line
theorem sl_from (h:x.length < 900000) (hz:z = (a:Int)):sliceF false (.str (T x)) (.int z) .none .none σ = .ok (.str (T (x.drop a))) σ:=by
 subst hz
 rw [slice_str (line9 h),slice_n]
theorem sl_nn (h:x.length < 900000) (hz:z = (a:Int)) (hy:y = (b:Int)):sliceF false (.str (T x)) (.int z) (.int y) .none σ = .ok (.str (T ((x.drop a).take (b - a)))) σ:=by
 subst hz hy
 rw [<- slice_nn]
 exact if_pos ⟨rfl,line9 h⟩
theorem sl_mid (e:x = p ++ q ++ r) (h:x.length < 900000) (hz:z = (p.length:Int)) (hy:y = ((p ++ q).length:Int)):sliceF false (.str (T x)) (.int z) (.int y) .none σ = .ok (.str (T q)) σ:=by
 rw [sl_nn h hz hy,e,List.append_assoc,List.drop_left,List.length_append,Nat.add_sub_cancel_left,List.take_left]
theorem sl_end (e:x = p ++ q) (h:x.length < 900000) (hz:z = (p.length:Int)):sliceF false (.str (T x)) (.int z) .none .none σ = .ok (.str (T q)) σ:=by
 rw [sl_from h hz,e,List.drop_left]
theorem idx_at {y:Tx} {i:Nat} (hz:z = (a:Int)) (h:sIdx (T x) (T y) a = some i):bmF false .index (.str (T x)) [.str (T y),.int z] σ = .ok (.int i) σ:=by
 subst hz
 show (if (0:Int) <= a then oO (sIdx (T x) (T y) (a:Int).toNat) fun i => .ok (.int i) σ else .bad) = _
 rw [if_pos (Int.natCast_nonneg _),Int.toNat_natCast,h]; rfl
theorem idx_c (e:x = p ++ q ++ c :: r) (hz:z = (p.length:Int)) (hc:c ∉ q):bmF false .index (.str (T x)) [.str (T [c]),.int z] σ = .ok (.int ((p ++ q).length:Int)) σ:=by
 subst e
 exact idx_at (a:=p.length) hz (sIdx_one (by rw [List.length_append]; exact Nat.le_add_right _ _) (by rw [List.drop_left]; exact hc))
end
noncomputable def namedL:List (Str × V):=[("amp",.str (T [38])),("lt",.str (T [60])),("gt",.str (T [62])),("quot",.str (T [34])),("apos",.str (T [39]))]
noncomputable def testU:CE:=(.cmp (.const (.str (T [38]))) [.In] (.cons (.slice false (.var 0) (.var 2) (.const (.none)) (.const (.none))) .nil))
noncomputable def decU:CE:=(.ite (.cmp (.var 6) [.In] (.cons (.var 3) .nil)) (.sub (.var 3) (.var 6)) (.bf false .chr (.cons (.ite (.cmp (.sub (.var 6) (.const (.int 1))) [.Eq] (.cons (.const (.str (T [120]))) .nil)) (.bf false .int (.cons (.slice false (.var 6) (.const (.int 2)) (.const (.none)) (.const (.none))) (.cons (.const (.int 16)) .nil))) (.bf false .int (.cons (.slice false (.var 6) (.const (.int 1)) (.const (.none)) (.const (.none))) .nil))) .nil)))
noncomputable def bodyU:CSs:=(.cons (.asg 4 (.meth false (.var 0) "index" [] (some .index) (.cons (.const (.str (T [38]))) (.cons (.var 2) .nil)) [] .nil)) (.cons (.asg 5 (.meth false (.var 0) "index" [] (some .index) (.cons (.const (.str (T [59]))) (.cons (.var 4) .nil)) [] .nil)) (.cons (.asg 6 (.slice false (.var 0) (.bin false .Add (.var 4) (.const (.int 1))) (.var 5) (.const (.none)))) (.cons (.asg 7 decU) (.cons (.asg2 1 2 (.tup (.cons (.bin false .Add (.bin false .Add (.var 1) (.slice false (.var 0) (.var 2) (.var 4) (.const (.none)))) (.var 7)) (.cons (.bin false .Add (.var 5) (.const (.int 1))) .nil)))) .nil)))))
theorem asg_ev {i:Nat} {a:CE} {e:EE} {fr:Fr} {σ:St} {N:KN} (h:ev a e fr σ fun v e fr σ => N e (setF fr i v) σ):evS (.asg i a) e fr σ N:=h
section
variable {wf n:Nat} {σ:St} {x f:Tx} {a D c:Nat} {x4 x5 x6 x7:Option V} {P:PX} {N:KN} {K:KE}
noncomputable abbrev frU (x f:Tx) (a:Nat) (D:Nat) (x4 x5 x6 x7:Option V):Fr:=[some (.str (T x)),some (.str (T f)),some (iv a),some (.ref D),x4,x5,x6,x7]
theorem in_dicty {L:List (Str × V)} {s:Str} (hD:σ[D]? = some (.dict L)):cmpQ σ .In (.str s) (.ref D) = some (L.lookup s).isSome:=congrArg (Option.map _) (dictAt_eq hD)
theorem sub_dict {L:List (Str × V)} {s:Str} (hD:σ[D]? = some (.dict L)):subF σ (.ref D) (.str s) = L.lookup s:=congrArg (fun o:Option (List (Str × V)) => o.bind fun kvs => kvs.lookup s) (dictAt_eq hD)
theorem dec_named {s:Tx} (hD:σ[D]? = some (.dict namedL)) (h:namedL.lookup (T s) = some (.str (T [c]))) (kk:K (.str (T [c])) ⟨cx1 wf n,P⟩ (frU x f a D x4 x5 (some (.str (T s))) x7) σ):ev decU ⟨cx1 wf n,P⟩ (frU x f a D x4 x5 (some (.str (T s))) x7) σ K :=
 elo_ok (in_dicty hD) (br_t (by rw [h]; rfl) (elo_ok ((sub_dict hD).trans h) kk))
theorem dec_num {s d v:Tx} {i:Int} (hD:σ[D]? = some (.dict namedL)) (h:namedL.lookup (T s) = none) (h1:subF σ (.str (T s)) (.int 1) = some (.str (T d))) (h2:T d ≠ T [120]) (h3:sliceF false (.str (T s)) (.int 1) .none .none σ = .ok (.str (T v)) σ) (h4:bfF false .int [.str (T v)] σ = .ok (.int i) σ) (h5:bfF false .chr [.int i] σ = .ok (.str (T [c])) σ)
  (kk:K (.str (T [c])) ⟨cx1 wf n,P⟩ (frU x f a D x4 x5 (some (.str (T s))) x7) σ):ev decU ⟨cx1 wf n,P⟩ (frU x f a D x4 x5 (some (.str (T s))) x7) σ K :=
 elo_ok (in_dicty hD) (br_f (by rw [h]; rfl) (elo_ok h1 (elo_ok (eqs_f h2) (br_f rfl (el_ok h3 (el_ok h4 (el_ok h5 kk)))))))
theorem decU_ok (hD:σ[D]? = some (.dict namedL)):∀ p ∈ refTbl,∀ {x4 x5 x7:Option V} {K:KE},K (.str (T [p.2])) ⟨cx1 wf n,P⟩ (frU x f a D x4 x5 (some (.str (T p.1))) x7) σ -> ev decU ⟨cx1 wf n,P⟩ (frU x f a D x4 x5 (some (.str (T p.1))) x7) σ K :=
 List.forall_mem_cons.mpr ⟨dec_named hD (by kernel_rfl),List.forall_mem_cons.mpr ⟨dec_named hD (by kernel_rfl),List.forall_mem_cons.mpr ⟨dec_named hD (by kernel_rfl),List.forall_mem_cons.mpr ⟨dec_named hD (by kernel_rfl),
  List.forall_mem_cons.mpr ⟨dec_num (d:=[57]) (v:=[57]) (i:=9) hD (by kernel_rfl) (by kernel_rfl) (sne (by kernel_rfl)) (by kernel_rfl) (by kernel_rfl) (by kernel_rfl),
  List.forall_mem_cons.mpr ⟨dec_num (d:=[49]) (v:=[49,48]) (i:=10) hD (by kernel_rfl) (by kernel_rfl) (sne (by kernel_rfl)) (by kernel_rfl) (by kernel_rfl) (by kernel_rfl),
  List.forall_mem_cons.mpr ⟨dec_num (d:=[49]) (v:=[49,51]) (i:=13) hD (by kernel_rfl) (by kernel_rfl) (sne (by kernel_rfl)) (by kernel_rfl) (by kernel_rfl) (by kernel_rfl),fun _ h => nomatch h⟩⟩⟩⟩⟩⟩⟩
theorem tbl_free:∀ p ∈ refTbl,59 ∉ p.1 /\ p.1.length < 10:=by decide
theorem unesc_go (hD:σ[D]? = some (.dict namedL)) (hx:x.length < 1000) (l:List (Tx × Nat)):∀ (pre pend f:Tx) (fuel:Nat) (x4 x5 x6 x7:Option V),(∀ p ∈ l,Enc p) -> l.length < fuel -> x = pre ++ pend ++ (l.map (·.1)).flatten -> 38 ∉ pend -> f.length <= pre.length ->
  (∀ f' a' y4 y5 y6 y7,f' ++ x.drop a' = f ++ pend ++ l.map (·.2) -> f'.length <= a' -> N ⟨cx1 wf n,P⟩ (frU x f' a' D y4 y5 y6 y7) σ) -> whileP (ev testU) (evSs bodyU) fuel ⟨cx1 wf n,P⟩ (frU x f pre.length D x4 x5 x6 x7) σ N:=by
 have hx9:x.length < 900000:=Nat.lt_trans hx (by decide)
 induction l with
 | nil =>
  intro pre pend f fuel x4 x5 x6 x7 _ hf e hp lf kk
  obtain ⟨fuel,rfl⟩:∃ k,fuel = k + 1:=⟨fuel - 1,(Nat.succ_pred_eq_of_pos hf).symm⟩
  rw [List.map_nil,List.flatten_nil,List.append_nil] at e
  exact el_ok (sl_end e hx9 rfl) (elo_ok in_one (br_f (decide_eq_false hp) (kk f pre.length x4 x5 x6 x7 (by rw [e,List.drop_left,List.map_nil,List.append_nil]) lf)))
 | cons w l ih =>
  intro pre pend f fuel x4 x5 x6 x7 he hf e hp lf kk
  rw [List.map_cons,List.flatten_cons] at e
  rw [List.map_cons] at kk
  rcases he w (.head _) with ⟨h1,h2⟩ | ⟨b,h1,h2⟩
  ·rw [h1,<- List.append_assoc,List.append_assoc pre] at e
   rw [List.append_cons,List.append_assoc f] at kk
   exact ih pre (pend ++ [w.2]) f fuel x4 x5 x6 x7 (fun p hp => he p (.tail _ hp)) (Nat.lt_of_succ_lt hf) e (fun h => (List.mem_append.mp h).elim hp fun h => h2 (List.mem_singleton.mp h).symm) lf kk
  ·obtain ⟨fuel,rfl⟩:∃ k,fuel = k + 1:=⟨fuel - 1,(Nat.succ_pred_eq_of_pos (Nat.zero_lt_of_lt hf)).symm⟩
   have nb:=(tbl_free _ h2).1
   have c38:(59:Nat) ∉ 38 :: b:=fun h => (List.mem_cons.mp h).elim (by decide) nb
   rw [h1] at e
   have e0:x = (pre ++ pend ++ (38 :: b ++ [59])) ++ [] ++ (l.map (·.1)).flatten:=by rw [List.append_nil,List.append_assoc (pre ++ pend)]; exact e
   have e1:x = pre ++ pend ++ 38 :: (b ++ 59 :: (l.map (·.1)).flatten):=by rw [List.append_cons b]; exact e
   have e2:x = (pre ++ pend) ++ 38 :: b ++ 59 :: (l.map (·.1)).flatten:=by rw [List.append_assoc (pre ++ pend)]; exact e1
   have e3:x = (pre ++ pend ++ [38]) ++ b ++ 59 :: (l.map (·.1)).flatten:=by rw [List.append_assoc (pre ++ pend ++ [38]),<- List.append_cons (pre ++ pend)]; exact e1
   have e4:x = pre ++ (pend ++ 38 :: (b ++ 59 :: (l.map (·.1)).flatten)):=by rw [<- List.append_assoc]; exact e1
   have lx:(pre ++ pend).length + 2 <= x.length:=by
    rw [e2,List.length_append (as:=pre ++ pend ++ 38 :: b),List.length_append (as:=pre ++ pend)]
    show (pre ++ pend).length + 1 + 1 <= _
    exact Nat.add_le_add (Nat.add_le_add_left (Nat.succ_le_succ (Nat.zero_le _)) _) (Nat.succ_le_succ (Nat.zero_le _))
   have lp:(f ++ pend).length <= (pre ++ pend).length:=by rw [List.length_append,List.length_append]; exact Nat.add_le_add_right lf _
   have lq:(f ++ pend ++ [w.2]).length < 1000:=by rw [List.length_append]; exact Nat.lt_of_le_of_lt (Nat.add_le_add_right lp 1) (Nat.lt_of_lt_of_le (Nat.lt_succ_self _) (Nat.le_trans lx (Nat.le_of_lt hx)))
   have lf':(f ++ pend ++ [w.2]).length <= (pre ++ pend ++ (38 :: b ++ [59])).length:=by
    rw [List.length_append,List.length_append (bs:=38 :: b ++ [59])]
    exact Nat.add_le_add lp (Nat.succ_le_succ (Nat.zero_le _))
   rw [List.append_cons,<- List.append_nil (f ++ pend ++ [w.2])] at kk
   have nx:=fun y4 y5 y6 y7 => ih (pre ++ pend ++ (38 :: b ++ [59])) [] (f ++ pend ++ [w.2]) fuel y4 y5 y6 y7 (fun p hp => he p (.tail _ hp)) (Nat.lt_of_succ_lt_succ hf) e0 List.not_mem_nil lf' kk
   have la:(pre ++ pend ++ (38 :: b ++ [59])).length = (pre ++ pend ++ 38 :: b).length + 1:=by rw [<- List.append_assoc,List.length_append]; rfl
   rw [la] at nx
   refine el_ok (sl_end e4 hx9 rfl) (elo_ok in_one (br_t (decide_eq_true (List.mem_append_right _ (.head _))) (elo_ok rfl (el_ok (idx_c e1 rfl hp) (elo_ok rfl (el_ok (idx_c e2 rfl c38) (el_ok add_ok (el_ok (sl_mid e3 hx9 ?_ ?_) (seq (asg_ev (decU_ok hD _ h2 ?_)))))))))))
   ·rw [List.length_append (bs:=[38])]; rfl
   ·rw [<- List.append_cons]
   ·exact el_ok (sl_mid e1 hx9 rfl rfl) (el_ok (add_T (pre_lt lq)) (el_ok (add_T lq) (el_ok add_ok (nx _ _ _ _))))
theorem drop_ext {v:V} {ext:St}:∃ e2,dropF true σ v (σ ++ ext) = σ ++ e2:=by
 have:(σ ++ ext).take σ.length = σ:=List.take_left
 unfold dropF
 dsimp only
 split
 ·exact ⟨[],by rw [this,List.append_nil]⟩
 ·exact ⟨ext,rfl⟩
theorem unescaped_ok {X:Addr -> St -> Prop} {K:V -> St -> Prop} {l:List (Tx × Nat)} (he:∀ p ∈ l,Enc p) (hx:(l.map (·.1)).flatten.length < 1000) (hl:l.length < 1000) (hw:1000 <= wf) (kk:∀ ext,K (.str (T (l.map (·.2)))) (σ ++ ext)):R1 wf (n + 1) 568 [.str (T (l.map (·.1)).flatten)] [] σ K X:=by
 have hD:(σ ++ [.dict namedL])[σ.length]? = some (.dict namedL):=app_get
 refine r1_of rfl rfl fun P hr _ => ⟨rfl,unesc_go hD hx l [] [] [] wf none none none none he (Nat.lt_of_lt_of_le hl hw) rfl List.not_mem_nil (Nat.le_refl _) fun f' a' y4 y5 y6 y7 r2 r3 => el_ok (sl_from (Nat.lt_trans hx (by decide)) rfl) (el_ok (add_T ?_) ?_)⟩
 ·rw [r2,List.append_nil,List.nil_append,List.length_map]; exact hl
 ·rw [r2,List.append_nil,List.nil_append]
  obtain ⟨e2,dr⟩:=drop_ext (σ:=σ) (v:=.str (T (l.map (·.2)))) (ext:=[.dict namedL])
  exact hr _ _ (by rw [dr]; exact kk e2)
end
structure NmOk (n:Tx):Prop where
 len:n.length < 20
 f34:34 ∉ n
 f32:32 ∉ n
 f62:62 ∉ n
noncomputable def ToldOk (l:List Pr):Prop:=∀ p ∈ l,NmOk p.1 /\ p.2.length < 10
theorem ite_p {Q:Tx -> Prop} {c:Prop} [Decidable c] {a b:Tx} (ha:Q a) (hb:¬ c -> Q b):Q (if c then a else b):=by
 by_cases h:c
 ·rw [if_pos h]; exact ha
 ·rw [if_neg h]; exact hb h
theorem no_one {c d:Nat} (h:¬ c = d):d ∉ [c]:=fun q => h (List.mem_singleton.mp q).symm
noncomputable def Clean (x:Tx):Prop:=34 ∉ x /\ 9 ∉ x /\ 10 ∉ x /\ 13 ∉ x /\ 60 ∉ x
theorem escV_free (c:Nat):34 ∉ escV c /\ 9 ∉ escV c /\ 10 ∉ escV c /\ 13 ∉ escV c /\ 60 ∉ escV c :=
 ite_p (Q:=Clean) (by unfold Clean; decide) fun _ => ite_p (Q:=Clean) (by unfold Clean; decide) fun h2 => ite_p (Q:=Clean) (by unfold Clean; decide) fun h3 => ite_p (Q:=Clean) (by unfold Clean; decide) fun h4 => ite_p (Q:=Clean) (by unfold Clean; decide) fun h5 => ite_p (Q:=Clean) (by unfold Clean; decide) fun h6 => ⟨no_one h3,no_one h4,no_one h5,no_one h6,no_one h2⟩
theorem escVs_free {x:Nat} (h:∀ c,x ∉ escV c) (v:Tx):x ∉ v.flatMap escV:=fun q => by
 obtain ⟨c,_,hc⟩:=List.mem_flatMap.mp q
 exact h c hc
noncomputable def parts (t:List Tx):Tx -> List Pr -> List Tx
 | pre,[] => (pre ++ t.headD []) :: t.tail
 | pre,p :: l => (pre ++ 32 :: p.1 ++ [61]) :: p.2.flatMap escV :: parts t [] l
theorem splitL_app {c:Nat} {a b:Tx} (h:c ∉ a):splitL c (a ++ b) = (a ++ (splitL c b).headD []) :: (splitL c b).tail:=by
 induction a with
 | nil =>
  cases e:splitL c b with
  | nil => exact absurd e (splitL_ne _ _)
  | cons x r => rw [List.nil_append,e]; rfl
 | cons x a ih => rw [List.cons_append,splitL,if_neg (fun e => h (by rw [e]; exact .head _)),ih fun q => h (.tail _ q)]; rfl
theorem nm_part {pre n:Tx} {c:Nat} (hp:c ∉ pre) (hn:c ∉ n) (h1:¬ 32 = c) (h2:¬ 61 = c):c ∉ pre ++ 32 :: n ++ [61]:=fun q =>
 (List.mem_append.mp q).elim (fun q => (List.mem_append.mp q).elim hp fun q => (List.mem_cons.mp q).elim (fun e => h1 e.symm) hn) (no_one h2)
theorem split_parts {tail:Tx} {l:List Pr}:∀ {pre:Tx},34 ∉ pre -> ToldOk l -> splitL 34 (pre ++ l.flatMap att ++ tail) = parts (splitL 34 tail) pre l:=by
 induction l with
 | nil => intro pre hp _; rw [List.flatMap_nil,List.append_nil,parts]; exact splitL_app hp
 | cons p l ih =>
  intro pre hp hl
  have hn:=(hl p (.head _)).1
  have e:pre ++ (p :: l).flatMap att ++ tail = (pre ++ 32 :: p.1 ++ [61]) ++ 34 :: (p.2.flatMap escV ++ 34 :: ([] ++ l.flatMap att ++ tail)):=by simp [att]
  rw [e,splitL_cons (nm_part hp hn.f34 (by decide) (by decide)),splitL_cons (escVs_free (fun c => (escV_free c).1) p.2),ih List.not_mem_nil fun p hp => hl p (.tail _ hp)]
  rfl
theorem parts_len {t:List Tx} (ht:t ≠ []) {l:List Pr}:∀ {pre:Tx},(parts t pre l).length = 2 * l.length + t.length:=by
 induction l with
 | nil => intro pre; cases t with | nil => exact absurd rfl ht | cons a b => exact (Nat.zero_add _).symm
 | cons p l ih => intro pre; rw [parts,List.length_cons,List.length_cons,ih,List.length_cons]; lia
noncomputable def odds:Nat -> Nat -> List Nat
 | _,0 => []
 | j,m + 1 => j :: odds (j + 2) m
theorem odds_range {a:Nat} (m:Nat):∀ (j:Nat),(List.range m).map (fun i => a + 2 * (j + i)) = odds (a + 2 * j) m:=by
 induction m with
 | zero => exact fun _ => rfl
 | succ m ih =>
  intro j
  rw [List.range_succ_eq_map,List.map_cons,List.map_map,odds]
  refine congrArg _ ((List.map_congr_left fun i _ => ?_).trans (ih (j + 1)))
  show a + 2 * (j + (i + 1)) = a + 2 * (j + 1 + i)
  rw [Nat.add_right_comm,Nat.add_assoc]
section
variable {wf n M:Nat} {σ:St} {x4 x5:Option V} {P:PX} {N:KN} {PV WV:List V} {mk:Bool}
noncomputable def bodyG:CSs:=(.cons (.asg 5 (.slice false (.sub (.meth false (.sub (.var 1) (.bin false .Sub (.var 4) (.const (.int 1)))) "split" [] (some .split) (.cons (.const (.str (T [32]))) .nil) [] .nil) (.neg (.const (.int 1)))) (.const (.none)) (.neg (.const (.int 1))) (.const (.none)))) (.cons (.expr (.meth false (.var 3) "append" [] (some .append) (.cons (.tup (.cons (.var 5) (.cons (.fn 568 (.cons (.repl (.repl (.sub (.var 1) (.var 4)) (T [9]) (T [32])) (T [10]) (T [32])) .nil) [] .nil) .nil))) .nil) [] .nil)) .nil))
noncomputable abbrev frG (x:Tx) (PV WV:List V) (M:Nat) (x4 x5:Option V):Fr:=[some (.str (T x)),some (.lst PV),some (.lst WV),some (.ref M),x4,x5]
theorem repl_no {a:Nat} {v:Tx} (h:a ∉ v) (hv:v.length < 1000) {c:Nat}:replF (T [a]) (T [c]) (.str (T v)) σ = .ok (.str (T v)) σ:=by
 show (if (T v).length <= big then Out.ok (V.str (Txt.replace (T v) (T [a]) (T [c]))) σ else .bad) = _
 rw [if_pos (by rw [T_length]; exact Nat.le_of_lt (big_of hv)),replace_T]
 refine congrArg (fun z => Out.ok (.str (T z)) σ) ?_
 conv => rhs; rw [<- List.map_id v]
 exact List.map_congr_left fun x hx => if_neg fun e => h (by rw [<- e]; exact hx)
theorem slice_init {p:Tx} {c:Nat} (h:p.length < 900):sliceF false (.str (T (p ++ [c]))) .none (.int (-1)) .none σ = .ok (.str (T p)) σ:=by
 show (if (none:Option Int) = none /\ (T (p ++ [c])).length <= sizeLine then Out.ok (V.str (Txt.slice (T (p ++ [c])) none (some (-1)))) σ else .bad) = _
 rw [if_pos ⟨rfl,by rw [T_length,List.length_append]; exact line_of (Nat.lt_trans (Nat.add_lt_add_right h 1) (by decide))⟩,slice_T]
 simp [clip]
 rw [show (max 0 (min (-1 + ((p.length:Int) + 1)) ((p.length:Int) + 1))).toNat = p.length by lia,List.take_left']
 rfl
theorem sub1 {a:Nat}:binF mk .Sub (iv (a + 1)) (.int 1) σ = .ok (iv a) σ:=congrArg (fun z => Out.ok (.int z) σ) (Int.add_sub_cancel (a:Int) 1)
theorem strV_at {A B:List Tx} {p:Tx} (hl:(strVy (A ++ p :: B)).length <= big):subF σ (.lst (strVy (A ++ p :: B))) (iv A.length) = some (.str (T p)):=sub_lst (by rw [strVy,List.getElem?_map,List.getElem?_append_right (Nat.le_refl _),Nat.sub_self]; rfl) hl
theorem turnG {x:Tx} {A B:List Tx} {pre nm v:Tx} {done:List Pr} (hl:(A ++ (pre ++ 32 :: nm ++ [61]) :: v.flatMap escV :: B).length < 900) (hpre:32 ∉ pre) (hpl:pre.length < 20) (hn:NmOk nm) (hv:v.length < 10) (hw:1000 <= wf)
  (hM:σ[M]? = some (.list (pairV done))) (hd:done.length < 100)
  (kk:∀ y5 σ',σ'[M]? = some (.list (pairV (done ++ [(nm,v)]))) -> Grow M σ σ' -> N ⟨cx1 wf (n + 1),P⟩ (frG x (strVy (A ++ (pre ++ 32 :: nm ++ [61]) :: v.flatMap escV :: B)) WV M (some (iv (A.length + 1))) y5) σ') :
  B1 4 bodyG (iv (A.length + 1)) ⟨cx1 wf (n + 1),P⟩ (frG x (strVy (A ++ (pre ++ 32 :: nm ++ [61]) :: v.flatMap escV :: B)) WV M x4 x5) σ N:=by
 have lb:(strVy (A ++ (pre ++ 32 :: nm ++ [61]) :: v.flatMap escV :: B)).length <= big:=by rw [strV_len]; exact Nat.le_of_lt (big_of (Nat.lt_trans hl (by decide)))
 have le:(v.flatMap escV).length < 60:=Nat.lt_of_le_of_lt (esc_len escV_len v) (Nat.mul_lt_mul_of_pos_left hv (by decide))
 have g2:subF σ (.lst (strVy (A ++ (pre ++ 32 :: nm ++ [61]) :: v.flatMap escV :: B))) (iv (A.length + 1)) = some (.str (T (v.flatMap escV))):=by
  have:=strV_at (σ:=σ) (A:=A ++ [pre ++ 32 :: nm ++ [61]]) (p:=v.flatMap escV) (B:=B) (by rw [<- List.append_cons]; exact lb)
  rwa [<- List.append_cons,List.length_append] at this
 have sp:splitL 32 (pre ++ 32 :: nm ++ [61]) = [pre,nm ++ [61]]:=by
  rw [show pre ++ 32 :: nm ++ [61] = pre ++ 32 :: (nm ++ [61]) from List.append_assoc ..,splitL_cons hpre,splitL_free fun q => (List.mem_append.mp q).elim hn.f32 (no_one (by decide))]
 have nl:=hn.len
 have b1:=split_c (σ:=σ) (c:=32) (x:=pre ++ 32 :: nm ++ [61]) (big_of (by rw [List.length_append,List.length_append]; exact Nat.lt_trans (Nat.add_lt_add_right (Nat.add_lt_add hpl (Nat.succ_lt_succ nl)) 1) (by decide)))
 rw [sp] at b1
 refine el_ok sub1 (elo_ok (strV_at lb) (elo_ok rfl (el_ok b1 (elo_ok (a:=.str (T (nm ++ [61]))) rfl (el_ok (slice_init (Nat.lt_trans nl (by decide))) (elo_ok (selF_append hM) (elo_ok g2
  (el_ok (repl_no (escVs_free (fun c => (escV_free c).2.1) v) (Nat.lt_trans le (by decide))) (el_ok (repl_no (escVs_free (fun c => (escV_free c).2.2.1) v) (Nat.lt_trans le (by decide))) (Ca.mk ?_))))))))))
 have em:(v.map fun c => (escV c,c)).map (·.1) = v.map escV:=List.map_map
 have em2:(v.map fun c => (escV c,c)).map (·.2) = v:=List.map_map.trans (List.map_id v)
 have u:=fun X K => unescaped_ok (wf:=wf) (n:=n) (σ:=σ) (X:=X) (K:=K) (l:=v.map fun c => (escV c,c)) (fun p hp => by
  obtain ⟨c,_,rfl⟩:=List.mem_map.mp hp
  exact enc_V c) (by rw [em,<- List.flatMap_def]; exact Nat.lt_trans le (by decide)) (by rw [List.length_map]; exact Nat.lt_trans hv (by decide)) hw
 rw [em,em2,<- List.flatMap_def] at u
 refine u _ _ fun ext => ?_
 have gr:Grow M σ (σ ++ ext):=Grow.app (Nat.le_of_lt (lt_of_get hM))
 have hM':(σ ++ ext)[M]? = some (.list (pairV done)):=get_app hM
 refine el_ok (append_ref hM' (by rw [pairV_len]; exact big_of (Nat.lt_trans hd (by decide)))) (kk _ _ ?_ (gr.trans (Grow.set (Nat.le_refl _) hM')))
 rw [pairV_snoc]; exact List.getElem?_set_self (lt_of_get hM')
theorem loopG {x:Tx} {t ps:List Tx} (ht:t.length <= 1) (ht':t ≠ []) (hw:1000 <= wf) (l:List Pr):∀ (A:List Tx) (pre:Tx) (done:List Pr) (σ:St) (x4 x5:Option V),ps = A ++ parts t pre l -> A.length + 2 * l.length < 80 -> done.length + l.length < 100 -> 32 ∉ pre -> pre.length < 20 -> ToldOk l -> σ[M]? = some (.list (pairV done)) ->
  (∀ y4 y5 σ',σ'[M]? = some (.list (pairV (done ++ l))) -> Grow M σ σ' -> N ⟨cx1 wf (n + 1),P⟩ (frG x (strVy ps) WV M y4 y5) σ') ->
  forP (fun _ => true) (B1 4 bodyG) (ivs (odds (A.length + 1) l.length)) ⟨cx1 wf (n + 1),P⟩ (frG x (strVy ps) WV M x4 x5) σ N:=by
 induction l with
 | nil => exact fun A pre done σ x4 x5 _ _ _ _ _ _ hM kk => ⟨rfl,kk x4 x5 σ (by rw [List.append_nil]; exact hM) Grow.refl⟩
 | cons p l ih =>
  intro A pre done σ x4 x5 e hA hd hp hpl hl hM kk
  obtain ⟨h1,h2⟩:=hl p (.head _)
  rw [List.length_cons] at hA
  rw [List.append_cons] at kk
  have lp:(A ++ parts t pre (p :: l)).length < 900:=by rw [List.length_append,parts_len ht',List.length_cons]; lia
  have e2:ps = (A ++ [pre ++ 32 :: p.1 ++ [61]] ++ [p.2.flatMap escV]) ++ parts t [] l:=by rw [<- List.append_cons,<- List.append_cons]; exact e
  have nx:=fun σ1 y5 m1 => ih (A ++ [pre ++ 32 :: p.1 ++ [61]] ++ [p.2.flatMap escV]) [] (done ++ [p]) σ1 (some (iv (A.length + 1))) y5 e2 (by rw [List.length_append,List.length_append]; show A.length + 1 + 1 + _ < _; lia) (by rw [List.length_append,Nat.add_assoc,Nat.add_comm [p].length]; exact hd) List.not_mem_nil (by decide) (fun q hq => hl q (.tail _ hq)) m1
  rw [List.length_append,List.length_append] at nx
  rw [e] at nx kk ⊢
  exact ⟨rfl,turnG lp hp hpl h1 h2 hw hM (head_lt hd) fun y5 σ1 m1 g1 => nx σ1 y5 m1 fun z4 z5 σ2 m2 g2 => kk z4 z5 σ2 m2 (g1.trans g2)⟩
theorem drop_any {v:V} {σ':St} {M:Nat} (hN:M <= σ.length) (g:Grow M σ σ'):Grow M σ (dropF true σ v σ'):=by
 unfold dropF
 dsimp only
 split
 ·rename_i h
  exact ⟨by rw [List.length_take]; exact Nat.le_min.mpr ⟨Nat.le_refl _,h.1⟩,fun i hi => (List.getElem?_take_of_lt (Nat.lt_of_lt_of_le hi hN)).trans (g.2.1 i hi),fun d l e => (List.getElem?_take_of_lt (lt_of_get e)).trans (g.2.2 d l e)⟩
 ·exact g
theorem tag_read {X:Addr -> St -> Prop} {K:V -> St -> Prop} {nm:Tx} {l:List Pr} (hn:NmOk nm) (hl:ToldOk l) (ll:l.length <= 10) (hw:1000 <= wf) (kk:∀ σ',Grow σ.length σ σ' -> K (.tup [.str (T nm),.tup (pairV l)]) σ'):R1 wf (n + 2) 575 [.str (T (nm ++ l.flatMap att))] [] σ K X:=by
 have al:(l.flatMap att).length <= 900:=Nat.le_trans (atts_len fun p hp => ⟨(hl p hp).1.len,(hl p hp).2⟩) (Nat.mul_le_mul_left 90 ll)
 have nl:=hn.len
 have sp:=split_parts (tail:=[]) (l:=l) (pre:=nm) hn.f34 hl
 rw [List.append_nil,show splitL 34 [] = [[]] from rfl] at sp
 have b1:=split_c (σ:=σ) (c:=34) (x:=nm ++ l.flatMap att) (big_of (by rw [List.length_append]; exact Nat.lt_of_lt_of_le (Nat.add_lt_add_of_lt_of_le nl al) (by decide)))
 rw [sp] at b1
 have pl:(parts [[]] nm l).length = 2 * l.length + 1:=parts_len (List.cons_ne_nil _ _)
 have pl2:(parts [[]] nm l).length <= 21:=by rw [pl]; exact Nat.succ_le_succ (Nat.mul_le_mul_left 2 ll)
 obtain ⟨p0,rest,w,e0,hw2,l0⟩:∃ p0 rest w,parts [[]] nm l = p0 :: rest /\ splitL 32 p0 = nm :: w /\ p0.length < 100:=by
  cases l with
  | nil => exact ⟨nm,[],[],by rw [parts]; exact congrArg (· :: []) (List.append_nil _),splitL_free hn.f32,Nat.lt_trans nl (by decide)⟩
  | cons p l =>
   have hq:=(hl p (.head _)).1.len
   refine ⟨_,_,_,rfl,by rw [show nm ++ 32 :: p.1 ++ [61] = nm ++ 32 :: (p.1 ++ [61]) from List.append_assoc ..,splitL_cons hn.f32],?_⟩
   rw [List.length_append,List.length_append]
   exact Nat.lt_trans (Nat.add_lt_add_right (Nat.add_lt_add nl (Nat.succ_lt_succ hq)) 1) (by decide)
 have b2:=split_c (σ:=σ) (c:=32) (x:=p0) (big_of (Nat.lt_trans l0 (by decide)))
 rw [hw2] at b2
 have wl:=splitL_len (c:=32) p0
 rw [hw2] at wl
 have wl':(strVy (nm :: w)).length <= big:=by rw [strV_len]; exact Nat.le_trans wl (Nat.le_trans l0 (by decide))
 have plb:(strVy (parts [[]] nm l)).length <= big:=by rw [strV_len]; exact Nat.le_trans pl2 (by decide)
 have g0:subF σ (.lst (strVy (parts [[]] nm l))) (.int 0) = some (.str (T p0)):=sub_lst (i:=0) (by rw [e0]; rfl) plb
 have ln:∀ s:St,bfF false .len [.lst (strVy (parts [[]] nm l))] s = .ok (iv (parts [[]] nm l).length) s:=fun s => by rw [len_lst plb,strV_len]
 have nb:(parts [[]] nm l).length <= big:=Nat.le_trans pl2 (by decide)
 have it:∀ s:St,itemsOf s (.rng 1 ((parts [[]] nm l).length:Int) 2) = some (ivs (odds 1 l.length)):=fun s => by
  refine (items_2 (σ:=s) (a:=1) nb (by decide)).trans (congrArg (fun z => some (ivs z)) ?_)
  rw [pl,show (2 * l.length + 1 + 1 - 1) / 2 = l.length by lia]
  have o:=odds_range (a:=1) l.length 0
  rw [<- o]
  exact List.map_congr_left fun i _ => by rw [Nat.zero_add]
 refine r1_of rfl rfl fun P hr _ => elo_ok rfl (el_ok b1 (elo_ok g0 (elo_ok rfl (el_ok b2 (el_ok (ln _) (el_ok (range_2 (a:=1) nb) (elo_ok (it _) (loopG (t:=[[]]) (by decide) (List.cons_ne_nil _ _) hw l [] nm [] (σ ++ [Cell.list []]) none none rfl ?_ ?_ hn.f32 nl hl app_get fun y4 y5 σ2 m2 g2 => elo_ok (sub_lst (i:=0) rfl wl') (el_ok (σ:=σ2) (v:=.tup (pairV l)) ?_ ?_)))))))))
 ·exact Nat.lt_of_le_of_lt (Nat.add_le_add_left (Nat.mul_le_mul_left 2 ll) 0) (by decide)
 ·exact Nat.lt_of_le_of_lt (Nat.add_le_add_left ll 0) (by decide)
 ·exact oO_some (getL_ref m2) (if_pos (by rw [List.nil_append,pairV_len]; exact Nat.le_trans ll (by decide)))
 ·exact hr _ _ (kk _ (drop_any (Nat.le_refl _) ((Grow.app (Nat.le_refl _)).trans g2)))
end
theorem sliceV_take (l:List V) (k:Nat) (h:k <= l.length):sliceV l none (some (k:Int)) none = l.take k:=by
 have key:∀ m,m <= l.length -> ((List.range m).filterMap fun k => l[k]?) = l.take m:=by
  intro m
  induction m with
  | zero => exact fun _ => rfl
  | succ m ih =>
   intro hm
   rw [List.range_succ,List.filterMap_append,ih (Nat.le_of_succ_le hm),List.take_add_one]
   congr 1
 rw [<- key k h]
 unfold sliceV sliceBounds sliceRange
 simp
 have e:max 0 (min (if (k:Int) < 0 then (k:Int) + (l.length:Int) else (k:Int)) (l.length:Int)) = k:=by rw [if_neg (by lia)]; lia
 rw [e]
 split
 ·rw [Int.toNat_natCast]
 ·rw [show k = 0 by lia]; rfl
theorem big91 {n:Nat} (h:n < 900001):n <= big:=Nat.le_trans (Nat.le_of_lt_succ (show n < 900000 + 1 from h)) (by decide)
theorem slice_take {l:List V} {k:Nat} {σ:St} (h:l.length < 900001) (hk:k <= l.length):sliceF false (.lst l) .none (.int (k:Int)) .none σ = .ok (.lst (l.take k)) σ:=by
 show (if (none:Option Int) ≠ some 0 /\ l.length <= big then okL false (sliceV l none (some (k:Int)) none) σ else .bad) = _
 rw [if_pos ⟨nofun,big91 h⟩,sliceV_take l k hk]
 exact okL_ok (Nat.le_trans (List.length_take_le _ _) (Nat.le_trans hk (big91 h)))
noncomputable def jl:List Tx -> Nat
 | [] => 0
 | a :: A => jl A + (a.length + 1)
theorem joinL_len {c:Nat} {A:List Tx}:A ≠ [] -> (joinL c A).length + 1 = jl A:=by
 induction A with
 | nil => exact fun h => absurd rfl h
 | cons a A ih =>
  intro _
  cases A with
  | nil => exact (Nat.zero_add _).symm
  | cons b r => rw [jl,<- ih (List.cons_ne_nil _ _)]; show (a ++ c :: joinL c (b :: r)).length + 1 = _; rw [List.length_append,List.length_cons]; lia
theorem jl_app {A B:List Tx}:jl (A ++ B) = jl A + jl B:=by
 induction A with
 | nil => exact (Nat.zero_add _).symm
 | cons a A ih => rw [List.cons_append,jl,jl,ih,Nat.add_right_comm]
noncomputable def bodyH:CSs:=(.cons (.ite (.cmp (.const (.str (T [62]))) [.In] (.cons (.sub (.var 2) (.var 3)) .nil)) (.cons (.ret (.bin false .Add (.bin false .Add (.bin false .Add (.bin false .Add (.var 1) (.bf false .len (.cons (.meth false (.const (.str (T [34]))) "join" [] (some .join) (.cons (.slice false (.var 2) (.const (.none)) (.var 3) (.const (.none))) .nil) [] .nil) .nil))) (.bf false .int (.cons (.cmp (.var 3) [.Gt] (.cons (.const (.int 0)) .nil)) .nil))) (.meth false (.sub (.var 2) (.var 3)) "index" [] (some .index) (.cons (.const (.str (T [62]))) .nil) [] .nil)) (.const (.int 1)))) .nil) .nil) .nil)
section
variable {wf n:Nat} {σ:St} {X:Tx} {at0:Nat} {ps A B:List Tx} {p q:Tx} {x3:Option V} {P:PX} {N:KN}
noncomputable abbrev frH (X:Tx) (at0:Nat) (ps:List Tx) (x3:Option V):Fr:=[some (.str (T X)),some (iv at0),some (.lst (strVy ps)),x3]
theorem join_34 (h:jl A < 900000):bmF false .join (.str (T [34])) [.lst (strVy A)] σ = .ok (.str (T (joinL 34 A))) σ:=by
 have e:strVy A = (A.map T).map .str:=List.map_map.symm
 have hs:(A.map (·.length)).sum + A.length * [34].length <= jl A:=by
  clear h e
  induction A with
  | nil => exact Nat.le_refl _
  | cons a r ih => rw [List.map_cons,List.sum_cons,List.length_cons,jl]; show _ + (r.length + 1) * 1 <= _; have:r.length * 1 = r.length:=Nat.mul_one _; rw [show [34].length = 1 from rfl] at ih; lia
 show oO (strsOf (strVy A)) _ = _
 refine oO_some (by rw [e]; exact strsOf_map _) ?_
 rw [joinC]
 exact if_pos (joinOk_T (Nat.le_trans hs (Nat.le_trans (Nat.le_of_lt (big9 h)) big_line)))
theorem turnH (hl:(A ++ p :: B).length < 900001) (hp:62 ∉ p) (kk:N ⟨cx1 wf n,P⟩ (frH X at0 (A ++ p :: B) (some (iv A.length))) σ):B1 3 bodyH (iv A.length) ⟨cx1 wf n,P⟩ (frH X at0 (A ++ p :: B) x3) σ N :=
 elo_ok (strV_at (by rw [strV_len]; exact big91 hl)) (elo_ok in_one (br_f (decide_eq_false hp) kk))
theorem joinL_jl:((joinL 34 A).length:Int) + (if decide ((A.length:Int) > 0) then 1 else 0) = jl A:=by
 cases A with
 | nil => rfl
 | cons a A =>
  rw [if_pos (show decide (((a :: A).length:Int) > 0) = true from decide_eq_true (Int.natCast_pos.mpr (Nat.succ_pos _))),<- joinL_len (c:=34) (List.cons_ne_nil _ _)]; rfl
theorem hitH (hl:(A ++ (p ++ 62 :: q) :: B).length < 900001) (hp:62 ∉ p) (hA:jl A < 900000) (kk:P.ret (iv (at0 + jl A + p.length + 1)) σ):B1 3 bodyH (iv A.length) ⟨cx1 wf n,P⟩ (frH X at0 (A ++ (p ++ 62 :: q) :: B) x3) σ N:=by
 have lb:(strVy (A ++ (p ++ 62 :: q) :: B)).length <= big:=by rw [strV_len]; exact big91 hl
 have s1:=slice_take (σ:=σ) (l:=strVy (A ++ (p ++ 62 :: q) :: B)) (k:=A.length) (by rw [strV_len]; exact hl) (by rw [strV_len,List.length_append]; exact Nat.le_add_right _ _)
 rw [show (strVy (A ++ (p ++ 62 :: q) :: B)).take A.length = strVy A by rw [strVy,List.map_append,List.take_left' (List.length_map _)]; rfl] at s1
 have jlen:(joinL 34 A).length <= big:=by
  cases A with
  | nil => exact Nat.zero_le _
  | cons a A => exact Nat.le_of_succ_le (Nat.le_trans (Nat.le_of_eq (joinL_len (List.cons_ne_nil _ _))) (Nat.le_of_lt (big9 hA)))
 have l1:=len_str (σ:=σ) (mk:=false) (x:=T (joinL 34 A)) (by rw [T_length]; exact jlen)
 rw [T_length] at l1
 have i1:bmF false .index (.str (T (p ++ 62 :: q))) [.str (T [62])] σ = .ok (.int (p.length:Int)) σ:=oO_some (o:=sIdx (T (p ++ 62 :: q)) (T [62]) 0) (sIdx_one (Nat.zero_le _) hp) rfl
 refine elo_ok (strV_at lb) (elo_ok in_one (br_t (decide_eq_true (List.mem_append_right _ (.head _))) (elo_ok rfl (el_ok s1 (el_ok (join_34 hA) (el_ok l1 (el_ok add_ok (elo_ok (a:=decide ((A.length:Int) > 0)) rfl (el_ok (v:=.int (if decide ((A.length:Int) > 0) then 1 else 0)) rfl (el_ok add_ok (elo_ok (strV_at lb) (elo_ok rfl (el_ok i1 (el_ok add_ok (el_ok add_ok ?_)))))))))))))))
 show P.ret (.int ((at0:Int) + ((joinL 34 A).length:Int) + (if decide ((A.length:Int) > 0) then 1 else 0) + (p.length:Int) + 1)) σ
 rw [Int.add_assoc (at0:Int),joinL_jl]
 exact kk
theorem loopH {kp:St -> Bool} (hk:kp σ = true) {t:List Tx} {e0 q:Tx} (ht:t.headD [] = e0 ++ 62 :: q) (he:62 ∉ e0) (hl:ps.length < 900001) (l:List Pr):∀ (A:List Tx) (pre:Tx) (x3:Option V) (m:Nat),ps = A ++ parts t pre l -> ToldOk l -> 62 ∉ pre -> l.length < m -> jl A + pre.length + 100 * l.length < 900000 ->
  P.ret (iv (at0 + jl A + (pre ++ l.flatMap att ++ e0).length + 1)) σ -> forP kp (B1 3 bodyH) (ivs (odds A.length m)) ⟨cx1 wf n,P⟩ (frH X at0 ps x3) σ N:=by
 induction l with
 | nil =>
  intro A pre x3 m e _ hp hm hj kk
  obtain ⟨m,rfl⟩:∃ k,m = k + 1:=⟨m - 1,(Nat.succ_pred_eq_of_pos hm).symm⟩
  rw [parts,ht,<- List.append_assoc] at e
  rw [List.flatMap_nil,List.append_nil] at kk
  rw [e] at hl ⊢
  exact ⟨hk,hitH hl (fun h => (List.mem_append.mp h).elim hp he) (head_lt (head_lt hj)) kk⟩
 | cons w l ih =>
  intro A pre x3 m e hl2 hp hm hj kk
  obtain ⟨m,rfl⟩:∃ k,m = k + 1:=⟨m - 1,(Nat.succ_pred_eq_of_pos (Nat.zero_lt_of_lt hm)).symm⟩
  have hn:=(hl2 w (.head _)).1
  have al:=att_len hn.len (hl2 w (.head _)).2
  rw [List.length_cons] at hj
  have ej:jl [pre ++ 32 :: w.1 ++ [61],w.2.flatMap escV] = pre.length + (att w).length:=by
   unfold att
   rw [jl,jl,jl,List.length_append,List.length_append,List.length_append,List.length_append,List.length_append,List.length_cons]
   show 0 + (_ + 1) + (_ + (_ + 1) + 1 + 1) = _ + (_ + 1 + 2 + _ + 1)
   lia
  have nx:=ih (A ++ [pre ++ 32 :: w.1 ++ [61],w.2.flatMap escV]) [] (some (iv A.length)) m (by rw [List.append_assoc]; exact e) (fun p hp => hl2 p (.tail _ hp)) List.not_mem_nil (Nat.lt_of_succ_lt_succ hm) (by rw [jl_app,ej]; show _ + _ + 0 + _ < _; lia)
  rw [jl_app,ej,List.length_append (as:=A)] at nx
  rw [e] at hl nx ⊢
  refine ⟨hk,turnH hl (nm_part hp hn.f62 (by decide) (by decide)) (nx ?_)⟩
  rw [List.flatMap_cons,List.length_append,List.length_append,List.length_append] at kk
  rw [List.nil_append,List.length_append]
  rwa [show at0 + (jl A + (pre.length + (att w).length)) + ((l.flatMap att).length + e0.length) + 1 = at0 + jl A + (pre.length + ((att w).length + (l.flatMap att).length) + e0.length) + 1 by lia]
theorem tag_end {pre0 nm e0 rest:Tx} {l:List Pr} (hn:NmOk nm) (hl:ToldOk l) (ll:l.length <= 10) (he:e0 = [] \/ e0 = [47]) (eX:X = pre0 ++ (60 :: nm ++ l.flatMap att ++ (e0 ++ 62 :: rest))) (lX:X.length < 890000) :
  Ok (R1 wf (n + 1) 582 [.str (T X),iv pre0.length] [] σ) (iv (pre0.length + (60 :: nm ++ l.flatMap att ++ e0).length + 1)) σ:=by
 have h34:34 ∉ 60 :: nm:=fun h => (List.mem_cons.mp h).elim (by decide) hn.f34
 have h62:62 ∉ 60 :: nm:=fun h => (List.mem_cons.mp h).elim (by decide) hn.f62
 have he34:34 ∉ e0 ++ [62]:=by rcases he with rfl | rfl <;> decide
 have he62:62 ∉ e0:=by rcases he with rfl | rfl <;> decide
 have sp:=split_parts (tail:=e0 ++ 62 :: rest) (l:=l) (pre:=60 :: nm) h34 hl
 have s1:=sl_end (σ:=σ) eX (Nat.lt_trans lX (by decide)) rfl
 have lr:(60 :: nm ++ l.flatMap att ++ (e0 ++ 62 :: rest)).length < 890000:=by
  rw [eX,List.length_append] at lX; exact Nat.lt_of_le_of_lt (Nat.le_add_left _ _) lX
 have b1:=split_c (σ:=σ) (c:=34) (x:=60 :: nm ++ l.flatMap att ++ (e0 ++ 62 :: rest)) (big9 (Nat.lt_trans lr (by decide)))
 have pl:=Nat.lt_of_le_of_lt (splitL_len (c:=34) (60 :: nm ++ l.flatMap att ++ (e0 ++ 62 :: rest))) (Nat.succ_lt_succ lr)
 rw [sp] at b1 pl
 have t62:(splitL 34 (e0 ++ 62 :: rest)).headD [] = e0 ++ 62 :: (splitL 34 rest).headD []:=by
  rw [List.append_cons,splitL_app he34]
  exact List.append_assoc ..
 have pl2:=parts_len (splitL_ne 34 (e0 ++ 62 :: rest)) (l:=l) (pre:=60 :: nm)
 have tp:=List.length_pos_iff.mpr (splitL_ne 34 (e0 ++ 62 :: rest))
 generalize splitL 34 (e0 ++ 62 :: rest) = t at b1 pl t62 pl2 tp
 generalize hps:parts t (60 :: nm) l = ps at b1 pl pl2
 have pb:ps.length <= big:=Nat.le_of_lt (Nat.lt_trans pl (by decide))
 have ln:bfF false .len [.lst (strVy ps)] σ = .ok (iv ps.length) σ:=by rw [len_lst (by rw [strV_len]; exact pb),strV_len]
 have it:itemsOf σ (.rng ((0:Nat):Int) (ps.length:Int) 2) = some (ivs (odds 0 ((ps.length + 1) / 2))):=by
  refine (items_2 (σ:=σ) (a:=0) pb (by decide)).trans (congrArg (fun z => some (ivs z)) ?_)
  have o:=odds_range (a:=0) ((ps.length + 1 - 0) / 2) 0
  refine Eq.trans ?_ o
  exact List.map_congr_left fun i _ => by rw [Nat.zero_add i]
 refine ok_r1 rfl rfl fun P kk => el_ok s1 (elo_ok rfl (el_ok b1 (el_ok ln (el_ok (range_2 (a:=0) pb) (elo_ok it (loopH rfl t62 he62 (Nat.lt_trans pl (by decide)) l [] (60 :: nm) none ((ps.length + 1) / 2) hps.symm hl h62 ?_ ?_ kk))))))
 ·lia
 ·show 0 + (nm.length + 1) + _ < _
  have nl:=hn.len
  lia
end
noncomputable def lfE:Leaf -> V
 | .tx v => .tup [.str "text",.str (T v)]
 | .cm v => .tup [.str "comment",.str (T v)]
 | .pi t d => .tup [.str "instruction",.str (T t),.str (T d)]
noncomputable def startE (h:Head) (ps:List Pr):V:=.tup [.str "start",.str (T h.nm),.tup (pairV (told h ps))]
noncomputable def endE (h:Head):V:=.tup [.str "end",.str (T h.nm)]
noncomputable def evts:Sp -> Fo -> List V
 | _,.nil => []
 | s,.lf _ k r => lfE k :: evts s r
 | s,.el _ h c r => startE h (decl s h).2 :: evts (puts s (decl s h).2) c ++ endE h :: evts s r
noncomputable def testV:CE:=(.cmp (.var 2) [.Lt] (.cons (.bf false .len (.cons (.var 0) .nil)) .nil))
noncomputable def ce3:CE:=(.ite (.cmp (.const (.str (T [60]))) [.In] (.cons (.slice false (.var 0) (.var 2) (.const (.none)) (.const (.none))) .nil)) (.meth false (.var 0) "index" [] (some .index) (.cons (.const (.str (T [60]))) (.cons (.var 2) .nil)) [] .nil) (.bf false .len (.cons (.var 0) .nil)))
noncomputable def bodyV:CSs:=(.cons (.ite (.cmp (.sub (.var 0) (.var 2)) [.NotEq] (.cons (.const (.str (T [60]))) .nil)) (.cons (.asg 3 ce3) (.cons (.expr (.meth false (.var 1) "append" [] (some .append) (.cons (.tup (.cons (.const (.str "text")) (.cons (.fn 568 (.cons (.slice false (.var 0) (.var 2) (.var 3) (.const (.none))) .nil) [] .nil) .nil))) .nil) [] .nil)) (.cons (.asg 1 (.bin true .Add (.var 1) (.bin false .Mult (.list false (.cons (.tup (.cons (.const (.str "comment")) (.cons (.const (.str (T [114,97,119]))) .nil))) .nil)) (.bf false .int (.cons (.cmp (.const (.str (T [93,93,62]))) [.In] (.cons (.slice false (.var 0) (.var 2) (.var 3) (.const (.none))) .nil)) .nil))))) .nil))) (.cons (.ite (.cmp (.slice false (.var 0) (.var 2) (.bin false .Add (.var 2) (.const (.int 4))) (.const (.none))) [.Eq] (.cons (.const (.str (T [60,33,45,45]))) .nil)) (.cons (.asg 3 (.bin false .Add (.meth false (.var 0) "index" [] (some .index) (.cons (.const (.str (T [45,45,62]))) (.cons (.var 2) .nil)) [] .nil) (.const (.int 3)))) (.cons (.expr (.meth false (.var 1) "append" [] (some .append) (.cons (.tup (.cons (.const (.str "comment")) (.cons (.slice false (.var 0) (.bin false .Add (.var 2) (.const (.int 4))) (.bin false .Sub (.var 3) (.const (.int 3))) (.const (.none))) .nil))) .nil) [] .nil)) .nil)) (.cons (.ite (.cmp (.sub (.var 0) (.bin false .Add (.var 2) (.const (.int 1)))) [.Eq] (.cons (.const (.str (T [63]))) .nil)) (.cons (.asg 3 (.bin false .Add (.meth false (.var 0) "index" [] (some .index) (.cons (.const (.str (T [63,62]))) (.cons (.var 2) .nil)) [] .nil) (.const (.int 2)))) (.cons (.asg 4 (.meth false (.slice false (.var 0) (.bin false .Add (.var 2) (.const (.int 2))) (.bin false .Sub (.var 3) (.const (.int 2))) (.const (.none))) "split" [] (some .split) (.cons (.const (.str (T [32]))) (.cons (.const (.int 1)) .nil)) [] .nil)) (.cons (.expr (.meth false (.var 1) "append" [] (some .append) (.cons (.tup (.cons (.const (.str "instruction")) (.cons (.sub (.var 4) (.const (.int 0))) (.cons (.ite (.cmp (.bf false .len (.cons (.var 4) .nil)) [.Gt] (.cons (.const (.int 1)) .nil)) (.sub (.var 4) (.const (.int 1))) (.const (.str (T [])))) .nil)))) .nil) [] .nil)) .nil))) (.cons (.ite (.cmp (.sub (.var 0) (.bin false .Add (.var 2) (.const (.int 1)))) [.Eq] (.cons (.const (.str (T [47]))) .nil)) (.cons (.asg 3 (.bin false .Add (.meth false (.var 0) "index" [] (some .index) (.cons (.const (.str (T [62]))) (.cons (.var 2) .nil)) [] .nil) (.const (.int 1)))) (.cons (.expr (.meth false (.var 1) "append" [] (some .append) (.cons (.tup (.cons (.const (.str "end")) (.cons (.slice false (.var 0) (.bin false .Add (.var 2) (.const (.int 2))) (.bin false .Sub (.var 3) (.const (.int 1))) (.const (.none))) .nil))) .nil) [] .nil)) .nil)) (.cons (.asg 3 (.fn 582 (.cons (.var 0) (.cons (.var 2) .nil)) [] .nil)) (.cons (.asg 5 (.cmp (.sub (.var 0) (.bin false .Sub (.var 3) (.const (.int 2)))) [.Eq] (.cons (.const (.str (T [47]))) .nil))) (.cons (.asg2 6 7 (.fn 575 (.cons (.slice false (.var 0) (.bin false .Add (.var 2) (.const (.int 1))) (.bin false .Sub (.var 3) (.ite (.var 5) (.const (.int 2)) (.const (.int 1)))) (.const (.none))) .nil) [] .nil)) (.cons (.asg 1 (.bin true .Add (.bin false .Add (.var 1) (.list false (.cons (.tup (.cons (.const (.str "start")) (.cons (.var 6) (.cons (.var 7) .nil)))) .nil))) (.bin false .Mult (.list false (.cons (.tup (.cons (.const (.str "end")) (.cons (.var 6) .nil))) .nil)) (.bf false .int (.cons (.var 5) .nil))))) .nil))))) .nil)) .nil)) .nil)) (.cons (.asg 2 (.var 3)) .nil))
noncomputable abbrev frV (X:Tx) (M a:Nat) (x3 x4 x5 x6 x7:Option V):Fr:=[some (.str (T X)),some (.ref M),some (iv a),x3,x4,x5,x6,x7]
noncomputable def GoV (N:KN) (e:EE) (X:Tx) (B a:Nat) (σ:St) (acc:List V):Prop:=∀ M' σ' y3 y4 y5 y6 y7,σ'[M']? = some (.list acc) -> Grow B σ σ' -> B <= M' -> N e (frV X M' a y3 y4 y5 y6 y7) σ'
section
variable {wf n M B:Nat} {σ:St} {X pre rest:Tx} {acc:List V} {x3 x4 x5 x6 x7:Option V} {P:PX} {N:KN} {mk:Bool} {K:KE}
theorem sub_str {p q:Tx} {c:Nat} {z:Int} (e:X = p ++ c :: q) (h:X.length < 900000) (hz:z = (p.length:Int)):subF σ (.str (T X)) (.int z) = some (.str (T [c])):=by
 subst hz
 show (some (p.length:Int)).bind (fun k => chAt (T X) (place (T X).length k)) = _
 have lp:p.length < X.length:=by rw [e,List.length_append]; exact Nat.lt_add_of_pos_right (Nat.succ_pos _)
 rw [Option.bind_some,T_length,place_nat lp (Nat.le_of_lt (big9 h))]
 show ((T X).cps[p.length]?).map _ = _
 have:(T X).cps[p.length]? = some c:=by subst e; simp [T]
 rw [this]; rfl
theorem mul_0 {v:V}:binF false .Mult (.lst [v]) (.int 0) σ = .ok (.lst []) σ:=by
 show (if ((0:Int) = 0 \/ (0:Int) = 1) /\ [v].length <= big then okL false (if (0:Int) = 1 then [v] else []) σ else .bad) = _
 rw [if_pos ⟨.inl rfl,small_big (l:=[v]) (show 1 < 1000 by decide)⟩,if_neg (by decide)]; exact okL_small (show 0 < 1000 by decide)
theorem mul_1 {v:V}:binF false .Mult (.lst [v]) (.int 1) σ = .ok (.lst [v]) σ:=by
 show (if ((1:Int) = 0 \/ (1:Int) = 1) /\ [v].length <= big then okL false (if (1:Int) = 1 then [v] else []) σ else .bad) = _
 rw [if_pos ⟨.inr rfl,small_big (l:=[v]) (show 1 < 1000 by decide)⟩,if_pos rfl]; exact okL_small (show 1 < 1000 by decide)
theorem add_new {l m:List V} (e:σ[M]? = some (.list l)) (h:(l ++ m).length <= big):binF true .Add (.ref M) (.lst m) σ = .ok (.ref σ.length) (σ ++ [.list (l ++ m)]):=oO_some (o:=getL σ (.ref M)) (getL_ref e) (oO_some (o:=some m) rfl (okL_mk h))
theorem add_old {l m:List V} (e:σ[M]? = some (.list l)) (h:(l ++ m).length <= big):binF false .Add (.ref M) (.lst m) σ = .ok (.lst (l ++ m)) σ:=oO_some (o:=getL σ (.ref M)) (getL_ref e) (oO_some (o:=some m) rfl (okL_ok h))
theorem add_lsts {l m:List V} (h:(l ++ m).length <= big):binF true .Add (.lst l) (.lst m) σ = .ok (.ref σ.length) (σ ++ [.list (l ++ m)]):=by
 show oO (getL σ (.lst l)) (fun l => oO (getL σ (.lst m)) fun m => okL true (l ++ m) σ) = _
 exact okL_mk h
noncomputable def Clean3 (x:Tx):Prop:=60 ∉ x /\ 62 ∉ x /\ 13 ∉ x
theorem escT_free (c:Nat):60 ∉ escT c /\ 62 ∉ escT c /\ 13 ∉ escT c :=
 ite_p (Q:=Clean3) (by unfold Clean3; decide) fun _ => ite_p (Q:=Clean3) (by unfold Clean3; decide) fun h2 => ite_p (Q:=Clean3) (by unfold Clean3; decide) fun h3 => ite_p (Q:=Clean3) (by unfold Clean3; decide) fun h4 => ⟨no_one h2,no_one h3,no_one h4⟩
theorem escTs_free {x:Nat} (h:∀ c,x ∉ escT c) (v:Tx):x ∉ v.flatMap escT:=fun q => by
 obtain ⟨c,_,hc⟩:=List.mem_flatMap.mp q
 exact h c hc
theorem enc_ne {x:Tx} {c:Nat} (h:Enc (x,c)):x ≠ []:=fun z => by
 rcases h with ⟨h,_⟩ | ⟨b,h,_⟩
 ·rw [show x = [c] from h] at z; cases z
 ·rw [show x = 38 :: b ++ [59] from h] at z; cases z
theorem esc_cons {v:Tx} (h:v ≠ []):∃ c E,v.flatMap escT = c :: E:=by
 cases v with
 | nil => exact absurd rfl h
 | cons a b =>
  rw [List.flatMap_cons]
  cases ha:escT a with
  | nil => exact absurd ha (enc_ne (enc_T a))
  | cons x y => exact ⟨x,_,rfl⟩
theorem ev3 {E:Tx} (eX:X = pre ++ E ++ rest) (hr:rest = [] \/ ∃ q,rest = 60 :: q) (lX:X.length < 890000) (f60:60 ∉ E) {e:EE} (kk:K (iv (pre ++ E).length) e (frV X M pre.length x3 x4 x5 x6 x7) σ):ev ce3 e (frV X M pre.length x3 x4 x5 x6 x7) σ K:=by
 have lX9:X.length < 900000:=Nat.lt_trans lX (by decide)
 have eX2:X = pre ++ (E ++ rest):=by rw [<- List.append_assoc]; exact eX
 rcases hr with rfl | ⟨q,rfl⟩
 ·rw [List.append_nil] at eX
  have ln:=len_str (σ:=σ) (mk:=false) (x:=T X) (by rw [T_length]; exact Nat.le_of_lt (big9 lX9))
  rw [T_length,show X.length = (pre ++ E).length by rw [eX]] at ln
  exact el_ok (sl_end eX2 lX9 rfl) (elo_ok in_one (br_f (decide_eq_false (by rw [List.append_nil]; exact f60)) (el_ok ln kk)))
 ·exact el_ok (sl_end eX2 lX9 rfl) (elo_ok in_one (br_t (decide_eq_true (List.mem_append_right _ (.head _))) (elo_ok rfl (el_ok (idx_c eX rfl f60) kk))))
theorem turn_tx {v:Tx} (o:OkV v) (eX:X = pre ++ v.flatMap escT ++ rest) (hr:rest = [] \/ ∃ q,rest = 60 :: q) (lX:X.length < 890000) (hM:σ[M]? = some (.list acc)) (hN:B <= M) (ha:acc.length < 800000) (hw:1000 <= wf) (kk:GoV N ⟨cx1 wf (n + 1),P⟩ X B (pre ++ v.flatMap escT).length σ (acc ++ [lfE (.tx v)])) :
  evSs bodyV ⟨cx1 wf (n + 1),P⟩ (frV X M pre.length x3 x4 x5 x6 x7) σ N:=by
 have lX9:X.length < 900000:=Nat.lt_trans lX (by decide)
 have le:(v.flatMap escT).length < 60:=Nat.lt_of_le_of_lt (esc_len escT_len v) (Nat.lt_of_le_of_lt (Nat.mul_le_mul_left 6 o.len) (by decide))
 have em:(v.map fun c => (escT c,c)).map (·.1) = v.map escT:=List.map_map
 have em2:(v.map fun c => (escT c,c)).map (·.2) = v:=List.map_map.trans (List.map_id v)
 have u:=fun X K => unescaped_ok (wf:=wf) (n:=n) (σ:=σ) (X:=X) (K:=K) (l:=v.map fun c => (escT c,c)) (fun p hp => by
  obtain ⟨c,_,rfl⟩:=List.mem_map.mp hp
  exact enc_T c) (by rw [em,<- List.flatMap_def]; exact Nat.lt_trans le (by decide)) (by rw [List.length_map]; exact Nat.lt_of_le_of_lt o.len (by decide)) hw
 rw [em,em2,<- List.flatMap_def] at u
 have f60:=escTs_free (fun c => (escT_free c).1) v
 have f62:=escTs_free (fun c => (escT_free c).2.1) v
 obtain ⟨c0,E',hc0⟩:=esc_cons o.ne
 have c60:¬ c0 = 60:=fun z => f60 (by rw [hc0,z]; exact .head _)
 have eX0:X = pre ++ c0 :: (E' ++ rest):=by rw [eX,hc0,List.append_assoc]; rfl
 have no:sIn (T [93,93,62]) (T (v.flatMap escT)) = false:=Bool.eq_false_iff.mpr fun h => by
  obtain ⟨a,b,e⟩:=sIn_iff.mp h
  exact f62 (by rw [e]; exact List.mem_append_left _ (List.mem_append_right _ (.tail _ (.tail _ (.head _)))))
 refine elo_ok (sub_str eX0 lX9 rfl) (elo_ok (nes_t (ne1 c60)) (br_t rfl (seq (asg_ev (ev3 eX hr lX f60 (elo_ok (selF_append hM) (el_ok (sl_mid eX lX9 rfl rfl) (Ca.mk (u _ _ fun ext => ?_)))))))))
 have hM':(σ ++ ext)[M]? = some (.list acc):=get_app hM
 have lM':=lt_of_get hM'
 have g1:Grow B σ (σ ++ ext):=Grow.app (Nat.le_trans hN (Nat.le_of_lt (lt_of_get hM)))
 have g2:Grow B (σ ++ ext) ((σ ++ ext).set M (.list (acc ++ [lfE (.tx v)]))):=Grow.set hN hM'
 have hS:((σ ++ ext).set M (.list (acc ++ [lfE (.tx v)])))[M]? = some (.list (acc ++ [lfE (.tx v)])):=List.getElem?_set_self lM'
 have lb:(acc ++ [lfE (.tx v)] ++ []).length <= big:=by rw [List.append_nil,List.length_append]; exact Nat.le_trans (Nat.succ_le_of_lt ha) (by decide)
 refine el_ok (append_ref hM' (big9 (Nat.lt_trans ha (by decide)))) (el_ok (sl_mid eX lX9 rfl rfl) (elo_ok (congrArg some no) (el_ok (v:=.int 0) rfl (el_ok mul_0 (el_ok (add_new hS lb) (kk _ _ _ _ _ _ _ ?_ ?_ ?_))))))
 ·rw [List.append_nil]; exact app_get
 ·exact (g1.trans g2).trans (Grow.app (Nat.le_trans hN (Nat.le_of_lt (lt_of_get hS))))
 ·exact Nat.le_trans hN (Nat.le_of_lt (lt_of_get hS))
theorem idx_y {q y:Tx} {z:Int} (e:X = pre ++ q ++ y ++ rest) (hz:z = (pre.length:Int)) (hn:∀ j,j < q.length -> ((q ++ y).drop j).take y.length ≠ y):bmF false .index (.str (T X)) [.str (T y),.int z] σ = .ok (iv (pre ++ q).length) σ:=by
 subst e
 refine idx_at (a:=pre.length) hz (sIdx_first (by rw [List.length_append]; exact Nat.le_add_right _ _) fun k h1 h2 => ?_)
 obtain ⟨j,rfl⟩:=Nat.exists_eq_add_of_le h1
 rw [List.length_append] at h2
 have hj:=Nat.lt_of_add_lt_add_left h2
 have hj2:j <= (q ++ y).length:=by rw [List.length_append]; exact Nat.le_trans (Nat.le_of_lt hj) (Nat.le_add_right _ _)
 rw [show pre ++ q ++ y ++ rest = pre ++ ((q ++ y) ++ rest) by rw [List.append_assoc,List.append_assoc,List.append_assoc],<- List.drop_drop,List.drop_left,List.drop_append_of_le_length hj2,List.take_append_of_le_length]
 ·exact hn j hj
 ·rw [List.length_drop,List.length_append]; omega
theorem step_list {v:V} (hM:σ[M]? = some (.list acc)) (hN:B <= M):(σ.set M (.list (acc ++ [v])))[M]? = some (.list (acc ++ [v])) /\ Grow B σ (σ.set M (.list (acc ++ [v]))):=⟨List.getElem?_set_self (lt_of_get hM),Grow.set hN hM⟩
theorem cm_scan:∀ v ∈ cmMenu,∀ j,j < ([60,33,45,45] ++ v).length -> (([60,33,45,45] ++ v ++ [45,45,62]).drop j).take 3 ≠ [45,45,62]:=by decide +kernel
theorem turn_cm {v:Tx} (o:v ∈ cmMenu) (eX:X = pre ++ lfT (.cm v) ++ rest) (lX:X.length < 890000) (hM:σ[M]? = some (.list acc)) (hN:B <= M) (ha:acc.length < 800000) (kk:GoV N ⟨cx1 wf n,P⟩ X B (pre ++ lfT (.cm v)).length σ (acc ++ [lfE (.cm v)])) :
  evSs bodyV ⟨cx1 wf n,P⟩ (frV X M pre.length x3 x4 x5 x6 x7) σ N:=by
 have lX9:X.length < 900000:=Nat.lt_trans lX (by decide)
 have e1:X = pre ++ ([60,33,45,45] ++ v) ++ [45,45,62] ++ rest:=by rw [List.append_assoc pre]; exact eX
 have e2:X = (pre ++ [60,33,45,45]) ++ v ++ ([45,45,62] ++ rest):=by rw [List.append_assoc pre,<- List.append_assoc (pre ++ _)]; exact e1
 have e3:X = pre ++ [60,33,45,45] ++ (v ++ ([45,45,62] ++ rest)):=by rw [<- List.append_assoc (pre ++ _)]; exact e2
 have e4:X = pre ++ 60 :: ([33,45,45] ++ (v ++ ([45,45,62] ++ rest))):=by rw [e3,List.append_assoc]; rfl
 have la:(pre ++ lfT (.cm v)).length = (pre ++ ([60,33,45,45] ++ v)).length + 3:=by
  rw [show pre ++ lfT (.cm v) = (pre ++ ([60,33,45,45] ++ v)) ++ [45,45,62] from (List.append_assoc ..).symm,List.length_append]; rfl
 rw [la] at kk
 obtain ⟨s1,s2⟩:=step_list (v:=lfE (.cm v)) hM hN
 refine elo_ok (sub_str e4 lX9 rfl) (elo_ok (nes_f rfl) (br_f rfl (el_ok add_ok (el_ok (sl_mid e3 lX9 rfl ?_) (elo_ok (eqs_t rfl) (br_t rfl (elo_ok rfl (el_ok (idx_y e1 rfl (cm_scan v o)) (el_ok add_ok (elo_ok (selF_append hM) (el_ok add_ok (el_ok sub_ok (el_ok (sl_mid e2 lX9 ?_ ?_) (el_ok (append_ref hM (big9 (Nat.lt_trans ha (by decide)))) (kk _ _ _ _ _ _ _ s1 s2 hN)))))))))))))))
 ·rw [List.length_append]; rfl
 ·rw [List.length_append]; rfl
 ·rw [Int.add_sub_cancel,List.append_assoc]
noncomputable def piW (d:Tx):Tx:=if d = [] then [] else 32 :: d
theorem pi_scan:∀ d ∈ piMenu,d.length < 100 /\ ∀ j,j < ([60,63,103,111] ++ piW d).length -> (([60,63,103,111] ++ piW d ++ [63,62]).drop j).take 2 ≠ [63,62]:=by decide +kernel
theorem turn_pi {d:Tx} (o:d ∈ piMenu) (eX:X = pre ++ lfT (.pi [103,111] d) ++ rest) (lX:X.length < 890000) (hM:σ[M]? = some (.list acc)) (hN:B <= M) (ha:acc.length < 800000) (kk:GoV N ⟨cx1 wf n,P⟩ X B (pre ++ lfT (.pi [103,111] d)).length σ (acc ++ [lfE (.pi [103,111] d)])) :
  evSs bodyV ⟨cx1 wf n,P⟩ (frV X M pre.length x3 x4 x5 x6 x7) σ N:=by
 have lX9:X.length < 900000:=Nat.lt_trans lX (by decide)
 obtain ⟨vl,sc⟩:=pi_scan d o
 have e1:X = pre ++ ([60,63,103,111] ++ piW d) ++ [63,62] ++ rest:=by rw [List.append_assoc pre]; exact eX
 have e2:X = (pre ++ [60,63]) ++ ([103,111] ++ piW d) ++ ([63,62] ++ rest):=by
  rw [<- List.append_assoc (pre ++ [60,63] ++ _),List.append_assoc pre]; exact e1
 have e3:X = pre ++ [60,63,103,111] ++ (piW d ++ ([63,62] ++ rest)):=by
  rw [e1,List.append_assoc,<- List.append_assoc pre,List.append_assoc _ (piW d)]
 have e4:X = pre ++ 60 :: ([63,103,111] ++ (piW d ++ ([63,62] ++ rest))):=by rw [e3,List.append_assoc]; rfl
 have e5:X = (pre ++ [60]) ++ 63 :: ([103,111] ++ (piW d ++ ([63,62] ++ rest))):=by rw [e4,List.append_cons]; rfl
 have la:(pre ++ lfT (.pi [103,111] d)).length = (pre ++ ([60,63,103,111] ++ piW d)).length + 2:=by
  rw [show pre ++ lfT (.pi [103,111] d) = (pre ++ ([60,63,103,111] ++ piW d)) ++ [63,62] from (List.append_assoc ..).symm,List.length_append]; rfl
 rw [la] at kk
 obtain ⟨s1,s2⟩:=step_list (v:=lfE (.pi [103,111] d)) hM hN
 have ap:=append_ref (mk:=false) (v:=lfE (.pi [103,111] d)) hM (big9 (Nat.lt_trans ha (by decide)))
 refine elo_ok (sub_str e4 lX9 rfl) (elo_ok (nes_f rfl) (br_f rfl (el_ok add_ok (el_ok (sl_mid e3 lX9 rfl ?_) (elo_ok (eqs_f (sne (by kernel_rfl))) (br_f rfl (el_ok add_ok (elo_ok (sub_str e5 lX9 ?_) (elo_ok (eqs_t rfl) (br_t rfl (elo_ok rfl (el_ok (idx_y e1 rfl sc) (el_ok add_ok (el_ok add_ok (el_ok sub_ok (el_ok (sl_mid e2 lX9 ?_ ?_) (elo_ok rfl ?_)))))))))))))))))
 ·rw [List.length_append]; rfl
 ·rw [List.length_append]; rfl
 ·rw [List.length_append]; rfl
 ·rw [Int.add_sub_cancel,List.append_assoc]; rfl
 ·by_cases z:d = []
  ·subst z
   exact el_ok (v:=.lst [.str (T [103,111])]) (by kernel_rfl) (elo_ok (selF_append hM) (elo_ok (a:=V.str (T [103,111])) rfl (el_ok (len_lst (small_big (show 1 < 1000 by decide))) (elo_ok (a:=false) rfl (br_f rfl (el_ok ap (kk _ _ _ _ _ _ _ s1 s2 hN)))))))
  ·have sp:bmF false .split (.str (T ([103,111] ++ piW d))) [.str (T [32]),.int 1] σ = .ok (.lst [.str (T [103,111]),.str (T d)]) σ:=by
    show (if (T [32]).length = 1 /\ (some 1:Option Int) = some 1 /\ (T ([103,111] ++ piW d)).length <= big then okL false ((Txt.splitMax (T ([103,111] ++ piW d)) (T [32]) 1).map .str) σ else .bad) = _
    rw [piW,if_neg z,if_pos ⟨rfl,rfl,by rw [T_length,List.length_append]; exact Nat.le_of_lt (big_of (Nat.lt_trans (Nat.add_lt_add_left (Nat.succ_lt_succ vl) 2) (by decide)))⟩,splitMax_one (by decide) (by decide)]
    exact okL_small (show 2 < 1000 by decide)
   exact el_ok sp (elo_ok (selF_append hM) (elo_ok (a:=V.str (T [103,111])) rfl (el_ok (len_lst (small_big (show 2 < 1000 by decide))) (elo_ok (a:=true) rfl (br_t rfl (elo_ok (a:=V.str (T d)) rfl (el_ok ap (kk _ _ _ _ _ _ _ s1 s2 hN))))))))
structure ElNm (m:Tx):Prop where
 ok:NmOk m
 ne:m ≠ []
 f47:47 ∉ m
 f33:33 ∉ m
 f63:63 ∉ m
theorem no_cm {c:Nat} {r:Tx} (e:X = pre ++ 60 :: c :: r) (hc:c ≠ 33) (lX:X.length < 900000):∃ Z,sliceF false (.str (T X)) (.int (pre.length:Int)) (.int ((pre.length:Int) + 4)) .none σ = .ok (.str (T Z)) σ /\ T Z ≠ T [60,33,45,45]:=by
 refine ⟨_,sl_nn (b:=pre.length + 4) lX rfl rfl,?_⟩
 rw [e,List.drop_left,Nat.add_sub_cancel_left]
 intro h
 have h:=T_inj.mp h
 injection h with _ h
 injection h with h _
 exact hc h
theorem turn_end {h:Head} (e:ElNm h.nm) (eX:X = pre ++ closeT h ++ rest) (lX:X.length < 890000) (hM:σ[M]? = some (.list acc)) (hN:B <= M) (ha:acc.length < 800000) (kk:GoV N ⟨cx1 wf n,P⟩ X B (pre ++ closeT h).length σ (acc ++ [endE h])) :
  evSs bodyV ⟨cx1 wf n,P⟩ (frV X M pre.length x3 x4 x5 x6 x7) σ N:=by
 have lX9:X.length < 900000:=Nat.lt_trans lX (by decide)
 have e1:X = pre ++ ([60,47] ++ h.nm) ++ 62 :: rest:=by rw [List.append_cons,List.append_assoc pre]; exact eX
 have e2:X = (pre ++ [60,47]) ++ h.nm ++ 62 :: rest:=by rw [List.append_assoc pre]; exact e1
 have e4:X = pre ++ 60 :: 47 :: (h.nm ++ 62 :: rest):=by rw [e1,List.append_assoc]; rfl
 have e5:X = (pre ++ [60]) ++ 47 :: (h.nm ++ 62 :: rest):=by rw [e4,List.append_cons]
 have la:(pre ++ closeT h).length = (pre ++ ([60,47] ++ h.nm)).length + 1:=by
  rw [show pre ++ closeT h = (pre ++ ([60,47] ++ h.nm)) ++ [62] from (List.append_assoc ..).symm,List.length_append]; rfl
 rw [la] at kk
 obtain ⟨s1,s2⟩:=step_list (v:=endE h) hM hN
 obtain ⟨Z,z1,z2⟩:=no_cm (σ:=σ) e4 (by decide) lX9
 have f62:62 ∉ [60,47] ++ h.nm:=fun q => (List.mem_append.mp q).elim (by decide) e.ok.f62
 refine elo_ok (sub_str e4 lX9 rfl) (elo_ok (nes_f rfl) (br_f rfl (el_ok add_ok (el_ok z1 (elo_ok (eqs_f z2) (br_f rfl (el_ok add_ok (elo_ok (sub_str e5 lX9 ?_) (elo_ok (eqs_f (sne (by kernel_rfl))) (br_f rfl (el_ok add_ok (elo_ok (sub_str e5 lX9 ?_) (elo_ok (eqs_t rfl) (br_t rfl (elo_ok rfl (el_ok (idx_c e1 rfl f62) (el_ok add_ok (elo_ok (selF_append hM) (el_ok add_ok (el_ok sub_ok (el_ok (sl_mid e2 lX9 ?_ ?_) (el_ok (append_ref hM (big9 (Nat.lt_trans ha (by decide)))) (kk _ _ _ _ _ _ _ s1 s2 hN)))))))))))))))))))))))
 ·rw [List.length_append]; rfl
 ·rw [List.length_append]; rfl
 ·rw [List.length_append]; rfl
 ·rw [Int.add_sub_cancel,List.append_assoc]
end
theorem sub_len {a b k:Nat} (h:a = b + k):(a:Int) - (k:Int) = (b:Int):=by subst h; exact Int.add_sub_cancel (b:Int) k
theorem snoc_of {α:Type} {l:List α} (h:l ≠ []):∃ m a,l = m ++ [a]:=⟨_,_,(List.dropLast_concat_getLast h).symm⟩
theorem body_last {nm:Tx} {l:List Pr} (h1:nm ≠ []) (h2:47 ∉ nm):∃ B c,60 :: nm ++ l.flatMap att = B ++ [c] /\ c ≠ 47:=by
 by_cases z:l = []
 ·subst z
  obtain ⟨m,c,hm⟩:=snoc_of h1
  exact ⟨60 :: m,c,by rw [List.flatMap_nil,List.append_nil,hm]; rfl,fun q => h2 (by rw [hm,q]; exact List.mem_append_right _ (.head _))⟩
 ·obtain ⟨m,w,hm⟩:=snoc_of z
  refine ⟨60 :: nm ++ (m.flatMap att ++ (32 :: w.1 ++ [61,34] ++ w.2.flatMap escV)),34,?_,by decide⟩
  rw [hm,List.flatMap_append,List.append_assoc,List.append_assoc]
  exact congrArg (fun x => 60 :: nm ++ (m.flatMap att ++ x)) (List.append_nil _)
section
variable {wf n M B:Nat} {σ:St} {X pre rest:Tx} {acc:List V} {x3 x4 x5 x6 x7:Option V} {P:PX} {N:KN}
theorem turn_start {h:Head} {ps:List Pr} {e:Bool} (en:ElNm h.nm) (tk:ToldOk (told h ps)) (tl:(told h ps).length <= 10) (eX:X = pre ++ tagT h ps e ++ rest) (lX:X.length < 880000) (hM:σ[M]? = some (.list acc)) (hN:B <= M) (ha:acc.length < 800000) (hw:1000 <= wf)
  (kk:GoV N ⟨cx1 wf (n + 2),P⟩ X B (pre ++ tagT h ps e).length σ (acc ++ [startE h ps] ++ (if e then [endE h] else []))):evSs bodyV ⟨cx1 wf (n + 2),P⟩ (frV X M pre.length x3 x4 x5 x6 x7) σ N:=by
 have lX9:X.length < 900000:=Nat.lt_trans lX (by decide)
 obtain ⟨c,nm',hc⟩:∃ c nm',h.nm = c :: nm':=by
  cases z:h.nm with
  | nil => exact absurd z en.ne
  | cons a b => exact ⟨a,b,rfl⟩
 have c33:c ≠ 33:=fun z => en.f33 (by rw [hc,z]; exact .head _)
 have c63:¬ c = 63:=fun z => en.f63 (by rw [hc,z]; exact .head _)
 have c47:¬ c = 47:=fun z => en.f47 (by rw [hc,z]; exact .head _)
 have main:∀ e0:Tx,(e0 = [] \/ e0 = [47]) -> X = pre ++ (60 :: h.nm ++ (told h ps).flatMap att ++ (e0 ++ 62 :: rest)) -> (∀ b:Bool,b = e -> (pre ++ tagT h ps b).length = pre.length + (60 :: h.nm ++ (told h ps).flatMap att ++ e0).length + 1) ->
   (∃ p c q,X = p ++ c :: q /\ pre.length + (60 :: h.nm ++ (told h ps).flatMap att ++ e0).length + 1 = p.length + 2 /\ (T [c] = T [47] ↔ e = true)) -> pre.length + (60 :: h.nm ++ (told h ps).flatMap att ++ e0).length + 1 = (pre ++ [60] ++ (h.nm ++ (told h ps).flatMap att)).length + (if e then 2 else 1) -> evSs bodyV ⟨cx1 wf (n + 2),P⟩ (frV X M pre.length x3 x4 x5 x6 x7) σ N:=by
  intro e0 ec eX0 la q5 q6
  obtain ⟨p5,c5,r5,e5',l5,b5⟩:=q5
  rw [la e rfl] at kk
  have e4:X = pre ++ 60 :: c :: ((nm' ++ (told h ps).flatMap att) ++ (e0 ++ 62 :: rest)):=by rw [eX0,hc]; rfl
  have e5:X = (pre ++ [60]) ++ c :: ((nm' ++ (told h ps).flatMap att) ++ (e0 ++ 62 :: rest)):=by rw [e4,List.append_cons]
  have e7:X = (pre ++ [60]) ++ (h.nm ++ (told h ps).flatMap att) ++ (e0 ++ 62 :: rest):=by rw [List.append_assoc,<- List.append_cons]; exact eX0
  obtain ⟨Z,z1,z2⟩:=no_cm (σ:=σ) e4 c33 lX9
  have lM:=lt_of_get hM
  have lp:(pre.length:Int) + 1 = ((pre ++ [60]).length:Int):=by rw [List.length_append]; rfl
  refine elo_ok (sub_str e4 lX9 rfl) (elo_ok (nes_f rfl) (br_f rfl (el_ok add_ok (el_ok z1 (elo_ok (eqs_f z2) (br_f rfl (el_ok add_ok (elo_ok (sub_str e5 lX9 lp) (elo_ok (eqs_f (ne1 c63)) (br_f rfl (el_ok add_ok (elo_ok (sub_str e5 lX9 lp) (elo_ok (eqs_f (ne1 c47)) (br_f rfl
   (ca_ok (tag_end en.ok tk tl ec eX0 (Nat.lt_trans lX (by decide))) (el_ok sub_ok (elo_ok (sub_str e5' lX9 (sub_len (k:=2) l5)) ?_)))))))))))))))))
  have rd:∀ {K:KE} {fr:Fr},(∀ σ',Grow σ.length σ σ' -> K (.tup [.str (T h.nm),.tup (pairV (told h ps))]) ⟨cx1 wf (n + 2),P⟩ fr σ') -> Ca (R1 wf (n + 2) 575 [.str (T (h.nm ++ (told h ps).flatMap att))] [] σ) ⟨cx1 wf (n + 2),P⟩ fr K:=fun k => .mk (tag_read en.ok tk tl hw k)
  have l1:(acc ++ [startE h ps]).length <= 800000:=by rw [List.length_append]; exact ha
  have l2:∀ m:List V,m.length <= 1 -> (acc ++ [startE h ps] ++ m).length <= big:=fun m hm => by rw [List.length_append]; exact Nat.le_trans (Nat.add_le_add l1 hm) (by decide)
  have hM1:∀ σ',Grow σ.length σ σ' -> σ'[M]? = some (.list acc):=fun σ' g => (g.2.1 M lM).trans hM
  have gN:∀ σ' (l:List V),Grow σ.length σ σ' -> Grow B σ (σ' ++ [.list l]):=fun σ' l g => Grow.trans ⟨g.1,fun i hi => g.2.1 i (Nat.lt_of_lt_of_le hi (Nat.le_trans hN (Nat.le_of_lt lM))),g.2.2⟩ (Grow.app (Nat.le_trans hN (Nat.le_trans (Nat.le_of_lt lM) g.1)))
  have nN:∀ σ',Grow σ.length σ σ' -> B <= σ'.length:=fun σ' g => Nat.le_trans hN (Nat.le_trans (Nat.le_of_lt lM) g.1)
  cases e with
  | true =>
   exact elo_ok (eqs_t (b5.mpr rfl)) (el_ok add_ok (br_t rfl (el_ok sub_ok (el_ok (sl_mid e7 lX9 lp (sub_len (k:=2) q6)) (rd fun σ1 g1 => el_ok (add_old (hM1 σ1 g1) (Nat.le_trans l1 (by decide))) (el_ok (v:=.int 1) rfl (el_ok mul_1 (el_ok (add_lsts (l2 [endE h] (Nat.le_refl 1))) (kk _ _ _ _ _ _ _ app_get (gN _ _ g1) (nN _ g1))))))))))
  | false =>
   exact elo_ok (eqs_f fun z => Bool.false_ne_true (b5.mp z)) (el_ok add_ok (br_f rfl (el_ok sub_ok (el_ok (sl_mid e7 lX9 lp (sub_len (k:=1) q6)) (rd fun σ1 g1 => el_ok (add_old (hM1 σ1 g1) (Nat.le_trans l1 (by decide))) (el_ok (v:=.int 0) rfl (el_ok mul_0 (el_ok (add_lsts (l2 [] (Nat.zero_le _))) (kk _ _ _ _ _ _ _ app_get (gN _ _ g1) (nN _ g1))))))))))
 have l60:(pre ++ [60] ++ (h.nm ++ (told h ps).flatMap att)).length = pre.length + (60 :: h.nm ++ (told h ps).flatMap att).length:=by rw [<- List.append_cons,List.length_append]; rfl
 cases e with
 | true =>
  have eX0:X = pre ++ (60 :: h.nm ++ (told h ps).flatMap att ++ ([47] ++ 62 :: rest)):=by rw [eX,tagT,List.append_assoc pre,List.append_assoc (_ ++ List.flatMap att _)]; rfl
  refine main [47] (.inr rfl) eX0 (fun b hb => ?_) ⟨pre ++ (60 :: h.nm ++ (told h ps).flatMap att),47,62 :: rest,?_,?_,fun _ => rfl,fun _ => rfl⟩ ?_
  ·rw [hb]
   show (pre ++ (60 :: h.nm ++ (told h ps).flatMap att ++ [47,62])).length = _
   rw [List.length_append,List.length_append (bs:=[47,62]),List.length_append (bs:=[47])]; rfl
  ·rw [List.append_assoc]; exact eX0
  ·rw [List.length_append (bs:=[47]),List.length_append (as:=pre)]; rfl
  ·rw [l60,List.length_append]; rfl
 | false =>
  have eX0:X = pre ++ (60 :: h.nm ++ (told h ps).flatMap att ++ ([] ++ 62 :: rest)):=by rw [eX,tagT,List.append_assoc pre,List.append_assoc (_ ++ List.flatMap att _)]; rfl
  obtain ⟨B',cl,hB,hcl⟩:=body_last (l:=told h ps) en.ne en.f47
  refine main [] (.inl rfl) eX0 (fun b hb => ?_) ⟨pre ++ B',cl,62 :: rest,?_,?_,fun z => absurd (List.head_eq_of_cons_eq (T_inj.mp z)) hcl,nofun⟩ ?_
  ·rw [hb,tagT,List.append_nil,List.length_append,List.length_append]; rfl
  ·rw [eX0,hB,List.append_assoc B',<- List.append_assoc]; rfl
  ·rw [List.append_nil,hB,List.length_append,List.length_append]; rfl
  ·rw [l60,List.append_nil]; rfl
theorem elnm_menu:∀ m ∈ elMenu,(m.1.length < 20 /\ 34 ∉ m.1 /\ 32 ∉ m.1 /\ 62 ∉ m.1) /\ m.1 ≠ [] /\ 47 ∉ m.1 /\ 33 ∉ m.1 /\ 63 ∉ m.1:=by decide +kernel
theorem xn_menu:∀ p ∈ pairMenu,((xn p.1).length < 20 /\ 34 ∉ xn p.1 /\ 32 ∉ xn p.1 /\ 62 ∉ xn p.1) /\ p.2.length < 10 /\ p.1.length < 10:=by decide +kernel
theorem atnm_menu:∀ m ∈ atMenu,(m.1.length < 20 /\ 34 ∉ m.1 /\ 32 ∉ m.1 /\ 62 ∉ m.1) /\ m.1.length < 10:=by decide +kernel
theorem OkH.elnm {h:Head} (o:OkH h):ElNm h.nm:=by
 have m:=elnm_menu _ o.nm
 exact ⟨⟨m.1.1,m.1.2.1,m.1.2.2.1,m.1.2.2.2⟩,m.2.1,m.2.2.1,m.2.2.2.1,m.2.2.2.2⟩
theorem OkH.told {h:Head} (o:OkH h) (hl:h.ats.length <= 2) (s:Sp):ToldOk (Mine.told h (Mine.decl s h).2) /\ (Mine.told h (Mine.decl s h).2).length <= 10:=by
 have D:=o.decl hl s
 refine ⟨fun p hp => ?_,?_⟩
 ·rcases List.mem_append.mp hp with hp | hp
  ·obtain ⟨w,hw,rfl⟩:=List.mem_map.mp hp
   have m:=xn_menu w (D.menu w hw)
   exact ⟨⟨m.1.1,m.1.2.1,m.1.2.2.1,m.1.2.2.2⟩,m.2.1⟩
  ·obtain ⟨w,hw,rfl⟩:=List.mem_map.mp hp
   have m:=atnm_menu _ (o.ats w hw).1
   exact ⟨⟨m.1.1,m.1.2.1,m.1.2.2.1,m.1.2.2.2⟩,Nat.lt_succ_of_le (o.ats w hw).2.2.len⟩
 ·rw [Mine.told,List.length_append,xns,ans,List.length_map,List.length_map]
  exact Nat.le_trans (Nat.add_le_add D.len hl) (by decide)
theorem OkH.fit {h:Head} (o:OkH h) (hl:h.ats.length <= 2):Fit h :=
 have op:=o.pairs
 ⟨(elMenu_len _ o.nm).1,fun w hw => ⟨(op.ns w hw).2,(xn_menu w (op.ns w hw).1).2.2,(xn_menu w (op.ns w hw).1).2.1⟩,op.nd,fun w hw => ⟨(op.ws w hw).2.1,(op.ws w hw).2.2,(xn_menu w (op.ws w hw).1).2.2,(xn_menu w (op.ws w hw).1).2.1⟩,op.at0,fun a ha => ⟨(atnm_menu _ (o.ats a ha).1).2,(o.ats a ha).2.2.len⟩,Nat.le_trans op.nsl (by decide),hl⟩
theorem OkF.fit {F:Fo}:∀ {b:Bool},OkF b F -> FitF F:=by
 induction F with
 | nil => exact fun _ => trivial
 | lf i k r ih => exact fun o => ⟨o.1,ih o.2.2⟩
 | el i h c r ihc ih => exact fun o => ⟨o.1.1.fit o.1.2,ihc o.2.1,ih o.2.2⟩
theorem lt_head {F:Fo} {s:Sp} (o:OkF true F) (h:rest = [] \/ ∃ q,rest = 60 :: q):(pcs s F).flatten ++ rest = [] \/ ∃ q,(pcs s F).flatten ++ rest = 60 :: q:=by
 cases F with
 | nil => exact h
 | lf i k r =>
  cases k with
  | tx v => exact absurd (o.2.1 rfl) Bool.noConfusion
  | cm v => exact .inr ⟨_,rfl⟩
  | pi t d => exact .inr ⟨_,rfl⟩
 | el i h c r => exact .inr ⟨_,rfl⟩
theorem GoV.trans {σ1:St} {e:EE} {a:Nat} (kk:GoV N e X B a σ acc) (g:Grow B σ σ1):GoV N e X B a σ1 acc:=fun _ _ _ _ _ _ _ h g2 => kk _ _ _ _ _ _ _ h (g.trans g2)
theorem len_X (lX:X.length < 880000):bfF false .len [.str (T X)] σ = .ok (iv X.length) σ:=by
 rw [len_str (by rw [T_length]; exact Nat.le_of_lt (big9 (Nat.lt_trans lX (by decide)))),T_length]
theorem read_turn {a m:Nat} (lX:X.length < 880000) (h:a < X.length) (kk:evSs bodyV ⟨cx1 wf n,P⟩ (frV X M a x3 x4 x5 x6 x7) σ fun e fr σ => whileP (ev testV) (evSs bodyV) m e fr σ N):whileP (ev testV) (evSs bodyV) (m + 1) ⟨cx1 wf n,P⟩ (frV X M a x3 x4 x5 x6 x7) σ N :=
 el_ok (len_X lX) (elo_ok (lt_t (Int.ofNat_lt.mpr h)) (br_t rfl kk))
theorem read_end {m:Nat} (lX:X.length < 880000) (kk:N ⟨cx1 wf n,P⟩ (frV X M X.length x3 x4 x5 x6 x7) σ):whileP (ev testV) (evSs bodyV) (m + 1) ⟨cx1 wf n,P⟩ (frV X M X.length x3 x4 x5 x6 x7) σ N :=
 el_ok (len_X lX) (elo_ok (lt_f (Int.lt_irrefl _)) (br_f rfl kk))
theorem evts_cnt {F:Fo}:∀ {s:Sp},(evts s F).length <= 2 * cnt F:=by
 induction F with
 | nil => exact Nat.le_refl _
 | lf _ _ r ih => exact fun {s} => Nat.succ_le_succ (Nat.le_succ_of_le (ih (s:=s)))
 | el _ h c r ihc ih =>
  intro s
  have h1:=ihc (s:=puts s (decl s h).2)
  have h2:=ih (s:=s)
  show (evts (puts s (decl s h).2) c ++ endE h :: evts s r).length + 1 <= 2 * (cnt c + cnt r + 1)
  rw [List.length_append,List.length_cons]
  lia
theorem lf_ne {k:Leaf} (o:OkK k):0 < (lfT k).length:=by
 cases k with
 | tx v => obtain ⟨c,E,h⟩:=esc_cons (OkV.ne o); rw [lfT,h]; exact Nat.succ_pos _
 | cm v => exact Nat.succ_pos _
 | pi t d => exact Nat.succ_pos _
theorem lt_app {W:Tx} (h:0 < W.length) (e:X = pre ++ W ++ rest):pre.length < X.length:=by
 rw [e,List.length_append,List.length_append]
 exact Nat.lt_of_lt_of_le (Nat.lt_add_of_pos_right h) (Nat.le_add_right _ _)
theorem turn_lf {k:Leaf} (o:OkK k) (eX:X = pre ++ lfT k ++ rest) (hr:k.isTx = true -> rest = [] \/ ∃ q,rest = 60 :: q) (lX:X.length < 880000) (hM:σ[M]? = some (.list acc)) (hN:B <= M) (ha:acc.length < 800000) (hw:1000 <= wf) (kk:GoV N ⟨cx1 wf (n + 1),P⟩ X B (pre ++ lfT k).length σ (acc ++ [lfE k])) :
  evSs bodyV ⟨cx1 wf (n + 1),P⟩ (frV X M pre.length x3 x4 x5 x6 x7) σ N:=by
 have lX:=Nat.lt_trans lX (by decide:880000 < 890000)
 cases k with
 | tx v => exact turn_tx o eX (hr rfl) lX hM hN ha hw kk
 | cm v => exact turn_cm o eX lX hM hN ha kk
 | pi t d => obtain ⟨rfl,o⟩:=o; exact turn_pi o eX lX hM hN ha kk
theorem pcs_el {i:Nat} {h:Head} {c r:Fo} {s:Sp} (z:isNil c = false):(pcs s (.el i h c r)).flatten = tagT h (decl s h).2 false ++ ((pcs (puts s (decl s h).2) c).flatten ++ (closeT h ++ (pcs s r).flatten)):=by
 rw [pcs,z,if_neg Bool.false_ne_true,List.cons_append,List.flatten_cons,List.flatten_append,List.flatten_append,List.flatten_singleton,List.append_assoc]
theorem read_go (hw:1000 <= wf) (lX:X.length < 880000) (F:Fo):∀ (s:Sp) (b:Bool) (pre rest:Tx) (acc:List V) (σ:St) (M:Nat) (x3 x4 x5 x6 x7:Option V) (m:Nat),OkF b F -> X = pre ++ (pcs s F).flatten ++ rest -> (rest = [] \/ ∃ q,rest = 60 :: q) -> σ[M]? = some (.list acc) -> B <= M -> acc.length + 2 * cnt F < 700000 ->
  GoV (fun e fr σ => whileP (ev testV) (evSs bodyV) m e fr σ N) ⟨cx1 wf (n + 2),P⟩ X B (pre ++ (pcs s F).flatten).length σ (acc ++ evts s F) -> whileP (ev testV) (evSs bodyV) (itr F + m) ⟨cx1 wf (n + 2),P⟩ (frV X M pre.length x3 x4 x5 x6 x7) σ N:=by
 induction F with
 | nil =>
  intro s b pre rest acc σ M x3 x4 x5 x6 x7 m _ _ _ hM hN _ kk
  have kk:=kk M σ x3 x4 x5 x6 x7 (by rw [evts,List.append_nil]; exact hM) Grow.refl hN
  rw [pcs,List.flatten_nil,List.append_nil] at kk
  rw [itr,Nat.zero_add]; exact kk
 | lf i k r ih =>
  intro s b pre rest acc σ M x3 x4 x5 x6 x7 m o eX hr hM hN ha kk
  rw [pcs,List.flatten_cons,<- List.append_assoc] at eX kk
  rw [evts,List.append_cons] at kk
  have eX2:X = pre ++ lfT k ++ ((pcs s r).flatten ++ rest):=by rw [<- List.append_assoc]; exact eX
  have ha2:(acc ++ [lfE k]).length + 2 * cnt r < 700000:=by rw [List.length_append]; exact Nat.lt_of_le_of_lt (by show acc.length + 1 + 2 * cnt r <= acc.length + 2 * (cnt r + 1); lia) ha
  rw [itr,Nat.add_right_comm]
  exact read_turn lX (lt_app (lf_ne o.1) eX2) (turn_lf o.1 eX2 (fun z => lt_head (z ▸ o.2.2) hr) lX hM hN (Nat.lt_trans (head_lt ha) (by decide)) hw fun M1 σ1 y3 y4 y5 y6 y7 m1 g1 n1 =>
   ih s k.isTx (pre ++ lfT k) rest (acc ++ [lfE k]) σ1 M1 y3 y4 y5 y6 y7 m o.2.2 eX hr m1 n1 ha2 (kk.trans g1))
 | el i h c r ihc ih =>
  intro s b pre rest acc σ M x3 x4 x5 x6 x7 m o eX hr hM hN ha kk
  obtain ⟨⟨o1,ol⟩,o2,o3⟩:=o
  obtain ⟨tk,tl⟩:=o1.told ol s
  have en:=o1.elnm
  have ha':acc.length + 2 * (cnt c + cnt r + 1) < 700000:=ha
  have a8:acc.length < 800000:=Nat.lt_trans (head_lt ha) (by decide)
  have tp:∀ e,0 < (tagT h (decl s h).2 e).length:=fun e => Nat.succ_pos _
  cases hz:isNil c with
  | true =>
   have cn:c = .nil:=ids_nil (isNil_ids.mpr hz)
   subst cn
   have ep:(pcs s (.el i h .nil r)).flatten = tagT h (decl s h).2 true ++ (pcs s r).flatten:=rfl
   have ee:acc ++ evts s (.el i h .nil r) = (acc ++ [startE h (decl s h).2] ++ [endE h]) ++ evts s r:=by rw [<- List.append_cons (acc ++ _),<- List.append_cons]; rfl
   rw [ep,<- List.append_assoc] at eX kk
   rw [ee] at kk
   have eX2:X = pre ++ tagT h (decl s h).2 true ++ ((pcs s r).flatten ++ rest):=by rw [<- List.append_assoc]; exact eX
   rw [show itr (.el i h .nil r) + m = (itr r + m) + 1 by rw [itr,hz,if_pos rfl,Nat.zero_add,itr,Nat.zero_add,Nat.add_right_comm]]
   exact read_turn lX (lt_app (tp _) eX2) (turn_start en tk tl eX2 lX hM hN a8 hw fun M1 σ1 y3 y4 y5 y6 y7 m1 g1 n1 =>
    ih s false _ rest _ σ1 M1 y3 y4 y5 y6 y7 m o3 eX hr m1 n1 (by rw [if_pos rfl,List.length_append,List.length_append]; show acc.length + 1 + 1 + 2 * cnt r < _; lia) (kk.trans g1))
  | false =>
   have c0:0 < cnt c:=by
    cases c with
    | nil => cases hz
    | lf => exact Nat.succ_pos _
    | el => exact Nat.succ_pos _
   have ec:=@evts_cnt c (puts s (decl s h).2)
   have ee:acc ++ evts s (.el i h c r) = (acc ++ [startE h (decl s h).2] ++ [] ++ evts (puts s (decl s h).2) c ++ [endE h]) ++ evts s r:=by
    rw [<- List.append_cons,List.append_nil,List.append_assoc,<- List.append_cons]; rfl
   rw [pcs_el hz] at eX kk
   rw [ee] at kk
   have eX2:X = pre ++ tagT h (decl s h).2 false ++ ((pcs (puts s (decl s h).2) c).flatten ++ (closeT h ++ (pcs s r).flatten) ++ rest):=by rw [eX,List.append_assoc pre,List.append_assoc pre,List.append_assoc (tagT ..)]
   have eX3:X = pre ++ tagT h (decl s h).2 false ++ (pcs (puts s (decl s h).2) c).flatten ++ (closeT h ++ ((pcs s r).flatten ++ rest)):=by rw [eX2,List.append_assoc (pcs ..).flatten,List.append_assoc (closeT h),<- List.append_assoc (pre ++ _)]
   have eX4:X = (pre ++ tagT h (decl s h).2 false ++ (pcs (puts s (decl s h).2) c).flatten) ++ closeT h ++ ((pcs s r).flatten ++ rest):=by rw [List.append_assoc _ (closeT h)]; exact eX3
   have eX5:X = (pre ++ tagT h (decl s h).2 false ++ (pcs (puts s (decl s h).2) c).flatten ++ closeT h) ++ (pcs s r).flatten ++ rest:=by rw [List.append_assoc _ (pcs s r).flatten]; exact eX4
   have ea:pre ++ (tagT h (decl s h).2 false ++ ((pcs (puts s (decl s h).2) c).flatten ++ (closeT h ++ (pcs s r).flatten))) = (pre ++ tagT h (decl s h).2 false ++ (pcs (puts s (decl s h).2) c).flatten ++ closeT h) ++ (pcs s r).flatten:=by
    rw [<- List.append_assoc,<- List.append_assoc,<- List.append_assoc]
   rw [ea] at kk
   rw [show itr (.el i h c r) + m = (itr c + (itr r + m + 1)) + 1 by rw [itr,hz,if_neg Bool.false_ne_true]; lia]
   exact read_turn lX (lt_app (tp _) eX2) (turn_start en tk tl eX2 lX hM hN a8 hw fun M1 σ1 y3 y4 y5 y6 y7 m1 g1 n1 =>
    ihc (puts s (decl s h).2) false _ (closeT h ++ ((pcs s r).flatten ++ rest)) _ σ1 M1 y3 y4 y5 y6 y7 (itr r + m + 1) o2 eX3 (.inr ⟨_,rfl⟩) m1 n1 (by rw [if_neg Bool.false_ne_true,List.append_nil,List.length_append]; show acc.length + 1 + 2 * cnt c < _; lia) fun M2 σ2 y3 y4 y5 y6 y7 m2 g2 n2 =>
    read_turn lX (lt_app (W:=closeT h) (Nat.succ_pos _) eX4) (turn_end en eX4 (Nat.lt_trans lX (by decide)) m2 n2 (by rw [if_neg Bool.false_ne_true,List.append_nil,List.length_append,List.length_append]; show acc.length + 1 + _ < _; lia) fun M3 σ3 y3 y4 y5 y6 y7 m3 g3 n3 =>
    ih s false _ rest _ σ3 M3 y3 y4 y5 y6 y7 m o3 eX5 hr m3 n3 (by rw [if_neg Bool.false_ne_true,List.append_nil,List.length_append,List.length_append,List.length_append]; show acc.length + 1 + _ + 1 + _ < _; lia) (kk.trans ((g1.trans g2).trans g3))))
theorem events_ok {X':Addr -> St -> Prop} {K:V -> St -> Prop} {F:Fo} (hw:1000 <= wf) (o:OkF false F) (hc:cnt F <= 400) (kk:∀ M σ',σ'[M]? = some (.list (evts xmlS F)) -> Grow σ.length σ σ' -> K (.ref M) σ'):R1 wf (n + 3) 589 [.str (T (text F))] [] σ K X':=by
 have lX:(text F).length < 880000:=Nat.lt_of_le_of_lt (text_len o.fit hc) (by decide)
 have ic:itr F + 1 <= wf:=Nat.le_trans (Nat.succ_le_succ (Nat.le_trans itr_cnt (Nat.mul_le_mul_left 2 hc))) (Nat.le_trans (by decide) hw)
 have hm:wf = itr F + (wf - (itr F + 1) + 1):=by rw [<- Nat.add_assoc,Nat.add_right_comm,Nat.add_sub_cancel' ic]
 refine r1_of rfl rfl fun P hr _ => ?_
 have go:=read_go (wf:=wf) (n:=n) (P:=P) (N:=fun e fr σ' => evSs (.cons (.ret (.var 1)) .nil) e fr σ' endN) (X:=text F) hw lX F xmlS false [] [] [] (σ ++ [.list []]) σ.length none none none none none (wf - (itr F + 1) + 1) o (by rw [List.append_nil]; rfl) (.inl rfl) app_get (Nat.le_refl _) (Nat.lt_of_le_of_lt (Nat.add_le_add_left (Nat.mul_le_mul_left 2 hc) 0) (by decide))
  fun M' σ' y3 y4 y5 y6 y7 h g _ => read_end lX (hr _ _ (kk _ _ h ((Grow.app (Nat.le_refl _)).trans g)))
 rw [<- hm] at go
 exact go
end
noncomputable def letters:Tx:=[97,98,99,100,101,109,110,112,113,114,115]
theorem letter_az:∀ c ∈ letters,(!decide ([c] < [97])) = true /\ (!decide ([122] < [c])) = true /\ c < 128:=by decide +kernel
section
variable {wf n:Nat} {σ:St} {c:Nat} {x:Tx} {P:PX} {N:KN}
theorem az_ok (h:c ∈ letters):Ok (R0 wf (n + 1) 173 [.str (T [c])] [] σ) (.bool true) σ :=
 ok_r0 rfl rfl fun P kk => elo_ok (congrArg some (letter_az c h).1) (br_t rfl (elo_ok (congrArg some (letter_az c h).2.1) kk))
theorem start_ok (h:c ∈ letters):Ok (R0 wf (n + 2) 180 [.str (T [c])] [] σ) (.bool true) σ :=
 ok_r0 rfl rfl fun P kk => el_ok ord_one (elo_ok (lt_t (Int.ofNat_lt.mpr (letter_az c h).2.2)) (br_t rfl (ca_ok (az_ok h) (br_t rfl kk))))
theorem sign_ok (h:c ∈ letters):Ok (R0 wf (n + 3) 187 [.str (T [c])] [] σ) (.bool true) σ :=
 ok_r0 rfl rfl fun P kk => ca_ok (start_ok h) (br_t rfl kk)
noncomputable def body194:CSs:=(.cons (.ite (.not (.fn 187 (.cons (.var 1) .nil) [] .nil)) (.cons (.ret (.const (.bool false))) .nil) .nil) .nil)
theorem signs_go (cs:Tx):∀ y,(∀ c ∈ cs,c ∈ letters) -> (∀ y,N ⟨cx0 wf (n + 3),P⟩ [some (.str (T x)),y] σ) -> forP (fun _ => true) (B1 1 body194) (cs.map fun c => .str (T [c])) ⟨cx0 wf (n + 3),P⟩ [some (.str (T x)),y] σ N:=by
 induction cs with
 | nil => exact fun y _ kk => ⟨rfl,kk y⟩
 | cons c cs ih => exact fun y h kk => ⟨rfl,ca_ok (sign_ok (h c (.head _))) (br_f rfl (ih _ (fun c hc => h c (.tail _ hc)) kk))⟩
theorem signs_ok (h0:x ≠ []) (h:∀ c ∈ x,c ∈ letters):Ok (R0 wf (n + 4) 194 [.str (T x)] [] σ) (.bool true) σ :=
 ok_r0 rfl rfl fun P kk => elo_ok (a:=x.map fun c => V.str (T [c])) rfl (signs_go x none h fun y => elo_ok (nes_t fun e => h0 (T_inj.mp e)) kk)
theorem name_okk (h0:x ≠ []) (hl:x.length < 100) (h:∀ c ∈ x,c ∈ letters):Ok (R0 wf (n + 5) 201 [.str (T x)] [] σ) (.bool true) σ:=by
 obtain ⟨c,r,rfl⟩:=List.exists_cons_of_ne_nil h0
 exact ok_r0 rfl rfl fun P kk => elo_ok (nes_t fun e => h0 (T_inj.mp e)) (br_t rfl (elo_ok (sub_str (p:=[]) rfl (Nat.lt_trans hl (by decide)) rfl) (ca_ok (start_ok (h c (.head _))) (br_t rfl (ca_ok (signs_ok h0 h) kk)))))
theorem nc_ok (h0:x ≠ []) (hl:x.length < 100) (h:∀ c ∈ x,c ∈ letters):Ok (R0 wf (n + 6) 208 [.str (T x)] [] σ) (.bool true) σ:=by
 have no:58 ∉ x:=fun q => (by decide:58 ∉ letters) (h _ q)
 have e:cmpQ σ .NotIn (.str (T [58])) (.str (T x)) = some true:=(congrArg (Option.map not) (in_one (σ:=σ) (c:=58) (x:=x))).trans (congrArg (fun b => some (!b)) (decide_eq_false no))
 exact ok_r0 rfl rfl fun P kk => elo_ok e (br_t rfl (ca_ok (name_okk h0 hl h) kk))
structure NameOky (x:Tx):Prop where
 pt:∀ p ∈ splitL 58 x,p ≠ [] /\ p.length < 100 /\ ∀ c ∈ p,c ∈ letters
 sp:splitL 58 x = [x] /\ pfx x = [] /\ lcl x = x \/ splitL 58 x = [pfx x,lcl x]
 len:x.length < 10
noncomputable def body215:CSs:=(.cons (.ite (.not (.fn 208 (.cons (.var 2) .nil) [] .nil)) (.cons (.raise 51 (.bin false .Add (.const (.str "a name with a wrong part: ")) (.var 0))) .nil) .nil) .nil)
theorem parts_go {v w:V} (ps:List Tx):∀ y,(∀ p ∈ ps,p ≠ [] /\ p.length < 100 /\ ∀ c ∈ p,c ∈ letters) -> (∀ y,N ⟨cx0 wf (n + 6),P⟩ [some v,some w,y] σ) -> forP (fun _ => true) (B1 2 body215) (strVy ps) ⟨cx0 wf (n + 6),P⟩ [some v,some w,y] σ N:=by
 induction ps with
 | nil => exact fun y _ kk => ⟨rfl,kk y⟩
 | cons p ps ih => exact fun y h kk => ⟨rfl,ca_ok (nc_ok (h p (.head _)).1 (h p (.head _)).2.1 (h p (.head _)).2.2) (br_f rfl (ih _ (fun c hc => h c (.tail _ hc)) kk))⟩
theorem sn_ok (h:NameOky x):Ok (R0 wf (n + 7) 215 [.str (T x)] [] σ) (.tup [.str (T (pfx x)),.str (T (lcl x))]) σ:=by
 have b:=nsplit (σ:=σ) (Nat.lt_trans h.len (by decide:10 < 900))
 have pg:=fun (v:V) (N:KN) P => parts_go (wf:=wf) (n:=n) (σ:=σ) (P:=P) (N:=N) (v:=.str (T x)) (w:=v) (splitL 58 x) none h.pt
 refine ok_r0 rfl rfl fun P kk => elo_ok rfl (el_ok b ?_)
 rcases h.sp with ⟨e,e1,e2⟩ | e
 ·rw [e] at pg ⊢
  rw [e1,e2] at kk
  exact el_ok (len_lst (small_big (show 1 < 1000 by decide))) (elo_ok (a:=false) rfl (br_f rfl (elo_ok rfl (pg _ _ _ fun y => el_ok (len_lst (small_big (show 1 < 1000 by decide))) (elo_ok (a:=true) rfl (br_t rfl kk))))))
 ·rw [e] at pg ⊢
  exact el_ok (len_lst (small_big (show 2 < 1000 by decide))) (elo_ok (a:=false) rfl (br_f rfl (elo_ok rfl (pg _ _ _ fun y => el_ok (len_lst (small_big (show 2 < 1000 by decide))) (elo_ok (a:=false) rfl (br_f rfl (elo_ok (a:=V.str (T (pfx x))) rfl (elo_ok (a:=V.str (T (lcl x))) rfl kk))))))))
theorem el_names:∀ m ∈ elMenu,(∀ p ∈ splitL 58 m.1,p ≠ [] /\ p.length < 100 /\ ∀ c ∈ p,c ∈ letters) /\ (splitL 58 m.1 = [m.1] /\ pfx m.1 = [] /\ lcl m.1 = m.1 \/ splitL 58 m.1 = [pfx m.1,lcl m.1]) /\ m.1.length < 10:=by decide +kernel
theorem at_names:∀ m ∈ atMenu,(∀ p ∈ splitL 58 m.1,p ≠ [] /\ p.length < 100 /\ ∀ c ∈ p,c ∈ letters) /\ (splitL 58 m.1 = [m.1] /\ pfx m.1 = [] /\ lcl m.1 = m.1 \/ splitL 58 m.1 = [pfx m.1,lcl m.1]) /\ m.1.length < 10:=by decide +kernel
theorem sn_el {m:Tx × Tx} (h:m ∈ elMenu):Ok (R0 wf (n + 7) 215 [.str (T m.1)] [] σ) (.tup [.str (T (pfx m.1)),.str (T (lcl m.1))]) σ:=sn_ok ⟨(el_names m h).1,(el_names m h).2.1,(el_names m h).2.2⟩
theorem sn_at {m:Tx × Tx} (h:m ∈ atMenu):Ok (R0 wf (n + 7) 215 [.str (T m.1)] [] σ) (.tup [.str (T (pfx m.1)),.str (T (lcl m.1))]) σ:=sn_ok ⟨(at_names m h).1,(at_names m h).2.1,(at_names m h).2.2⟩
noncomputable def prefMenu:List Tx:=[[],[112],[113],[115],[114]]
theorem pref_of:∀ p ∈ pairMenu,p.1 ∈ prefMenu:=by decide +kernel
theorem sl_to {b:Nat} (h:x.length < 900000):sliceF false (.str (T x)) .none (.int (b:Int)) .none σ = .ok (.str (T (x.take b))) σ:=by
 rw [<- slice_to]; exact if_pos ⟨rfl,line9 h⟩
theorem pref_len:∀ p ∈ prefMenu,p.length < 10 /\ p ≠ [120,109,108,110,115]:=by decide +kernel
theorem dp_xn {p:Tx} (h:p ∈ prefMenu):Ok (R0 wf (n + 1) 222 [.str (T (xn p))] [] σ) (.str (T p)) σ:=by
 have lp:=(pref_len p h).1
 refine ok_r0 rfl rfl fun P kk => ?_
 unfold xn
 by_cases z:p = []
 ·rw [if_pos z]; rw [z] at kk
  exact elo_ok (eqs_t rfl) (br_t rfl kk)
 ·rw [if_neg z]
  have l9:([120,109,108,110,115,58] ++ p).length < 900000:=by rw [List.length_append]; exact Nat.lt_trans (Nat.add_lt_add_left lp 6) (by decide)
  have n2:[120,109,108,110,115,58] ++ p ≠ [120,109,108,110,115,58]:=fun e => z (List.append_cancel_left (e.trans (List.append_nil _).symm))
  exact elo_ok (eqs_f fun e => by have:=congrArg (fun l:Tx => l[5]?) (T_inj.mp e); cases this) (br_f rfl (elo_ok (eqs_f fun e => n2 (T_inj.mp e)) (br_f rfl (el_ok (sl_to (b:=6) l9) (elo_ok (eqs_t rfl) (br_t rfl (el_ok (sl_from (a:=6) l9 rfl) kk)))))))
theorem at_plain:∀ m ∈ atMenu,m.1 ≠ [120,109,108,110,115] /\ m.1 ≠ [120,109,108,110,115,58] /\ m.1.take 6 ≠ [120,109,108,110,115,58]:=by decide +kernel
theorem dp_at {m:Tx × Tx} (h:m ∈ atMenu):Ok (R0 wf (n + 1) 222 [.str (T m.1)] [] σ) .none σ:=by
 have f:=at_plain m h
 exact ok_r0 rfl rfl fun P kk => elo_ok (eqs_f fun e => f.1 (T_inj.mp e)) (br_f rfl (elo_ok (eqs_f fun e => f.2.1 (T_inj.mp e)) (br_f rfl (el_ok (sl_to (b:=6) (Nat.lt_trans (at_names m h).2.2 (by decide))) (elo_ok (eqs_f fun e => f.2.2 (T_inj.mp e)) (br_f rfl kk))))))
theorem pair_plain:∀ p ∈ pairMenu,p.1 ≠ [120,109,108,110,115] /\ p.1 ≠ [120,109,108] /\ p.2 ∉ [xmlU,[104,116,116,112,58,47,47,119,119,119,46,119,51,46,111,114,103,47,50,48,48,48,47,120,109,108,110,115,47]] /\ (p.1 ≠ [] -> p.2 ≠ []) /\ p.1.length < 100 /\ ∀ c ∈ p.1,c ∈ letters:=by decide +kernel
theorem cb_ok {p:Pr} (h:p ∈ pairMenu):Ok (R0 wf (n + 7) 229 [.str (T p.1),.str (T p.2)] [] σ) .none σ:=by
 have f:=pair_plain p h
 have i:cmpQ σ .In (.str (T p.2)) (.tup (strVy [xmlU,[104,116,116,112,58,47,47,119,119,119,46,119,51,46,111,114,103,47,50,48,48,48,47,120,109,108,110,115,47]])) = some false:=strsIn_map.trans (congrArg some (decide_eq_false f.2.2.1))
 refine ok_r0 rfl rfl fun P kk => elo_ok (eqs_f fun e => f.1 (T_inj.mp e)) (br_f rfl (elo_ok (eqs_f fun e => f.2.1 (T_inj.mp e)) (br_f rfl (elo_ok i (br_f rfl ?_)))))
 by_cases z:p.1 = []
 ·exact elo_ok (nes_f (congrArg T z)) (br_f rfl kk)
 ·exact elo_ok (nes_t fun e => z (T_inj.mp e)) (br_t rfl (ca_ok (nc_ok z f.2.2.2.2.1 f.2.2.2.2.2) (br_f rfl (elo_ok (eqs_f fun e => f.2.2.2.1 z (T_inj.mp e)) (br_f rfl kk)))))
noncomputable abbrev DS (L:St):List Nat -> List Sp -> Prop:=All2 fun d s => L[d]? = some (.dict (scL s))
theorem DS.mono {L L':St} (g:Grow 0 L L') {ds ss} (h:DS L ds ss):DS L' ds ss:=All2.mono (fun _ _ => g.2.2 _ _) h
theorem All2.last {α β:Type} {P:α -> β -> Prop} {b:β} {m:List β}:∀ {l:List α},All2 P l (m ++ [b]) -> ∃ l' a,l = l' ++ [a] /\ P a b /\ All2 P l' m:=by
 induction m with
 | nil =>
  intro l x
  cases x with
  | cons h r => cases r; exact ⟨[],_,rfl,h,.nil⟩
 | cons c m ih =>
  intro l x
  cases x with
  | cons h r =>
   obtain ⟨l',a,rfl,p,q⟩:=ih r
   exact ⟨_ :: l',a,rfl,p,.cons h q⟩
structure BS (L:St) (a b:Nat) (ds:List Nat) (ts:List V) (ss:List Sp):Prop where
 i:L[0]? = some (.inst 303 [("scopes",.ref a),("told",.ref b)])
 ha:L[a]? = some (.list (ds.map .ref))
 hb:L[b]? = some (.list ts)
 ne:a ≠ b
 len:ts.length = ds.length
 hd:DS L ds ss
 nl:L.all Cell.nolst = true
 bd:ds.length < 800000
noncomputable def IsB (σ:St) (k:Nat) (ss:List Sp):Prop:=∃ L a b ds ts,σ[k]? = some (.pack L) /\ BS L a b ds ts ss
theorem all_set {l:List Cell} {p:Cell -> Bool} {i:Nat} {c:Cell} (h:l.all p = true) (hc:p c = true):(l.set i c).all p = true:=by
 rw [List.all_eq_true] at h ⊢
 intro x hx
 rcases List.mem_or_eq_of_mem_set hx with hx | rfl
 ·exact h x hx
 ·exact hc
theorem all_app {l m:List Cell} {p:Cell -> Bool} (h:l.all p = true) (hm:m.all p = true):(l ++ m).all p = true:=by rw [List.all_append,h,hm]; rfl
theorem nolst_pairV:∀ l:List Pr,V.nolsts (pairV l) = true
 | [] => rfl
 | p :: l => nolst_pairV l
theorem noref_pairV:∀ l:List Pr,V.norefs (pairV l) = true
 | [] => rfl
 | p :: l => noref_pairV l
theorem nolst_rf:∀ l:List Nat,V.nolsts (l.map .ref) = true
 | [] => rfl
 | p :: l => nolst_rf l
theorem nolsts_app {l m:List V} (h:V.nolsts l = true) (h2:V.nolsts m = true):V.nolsts (l ++ m) = true:=by
 induction l with
 | nil => exact h2
 | cons a l ih =>
  have h:=Bool.and_eq_true_iff.mp h
  exact Bool.and_eq_true_iff.mpr ⟨h.1,ih h.2⟩
theorem nolsts_left {l m:List V} (h:V.nolsts (l ++ m) = true):V.nolsts l = true:=by
 induction l with
 | nil => rfl
 | cons a l ih =>
  have h:=Bool.and_eq_true_iff.mp h
  exact Bool.and_eq_true_iff.mpr ⟨h.1,ih h.2⟩
theorem nolst_scL {s:Sp}:Cell.nolst (.dict (scL s)) = true:=by
 show (scL s).all _ = true
 rw [List.all_eq_true]
 intro x hx
 obtain ⟨w,_,rfl⟩:=List.mem_map.mp hx
 rfl
end
section
variable {wf n:Nat} {L:St} {a b:Nat} {ds:List Nat} {ts:List V} {ss:List Sp} {s:Sp}
theorem b_scopes (B:BS L a b ds ts ss):attrF L (.ref 0) "scopes" [303] = some (.ref a):=attr_ref B.i (by decide) (by kernel_rfl)
theorem b_sel {m:Str} {f:Addr} {bm:Option BM} (B:BS L a b ds ts ss) (h:([("scopes",V.ref a),("told",.ref b)]:List (Str × V)).lookup m = none):selF m [(303,f)] bm (.ref 0) L = some (.fn f):=selF_inst B.i h rfl
theorem sub_lastr {k:Nat} {l:List V} {v:V} (e:L[k]? = some (.list (l ++ [v]))) (h:l.length < 900000):subF L (.ref k) (.int (-1)) = some v:=by
 show (lstAt L k).bind (fun l => atL l (place l.length (-1))) = _
 have hl:(l ++ [v]).length = l.length + 1:=List.length_append
 rw [lstAt_eq e,Option.bind_some,hl,place_last (Nat.succ_pos _) (Nat.le_trans (Nat.succ_le_of_lt h) (by decide))]
 show (l ++ [v])[l.length + 1 - 1]? = _
 rw [Nat.add_sub_cancel,List.getElem?_append_right (Nat.le_refl _),Nat.sub_self]; rfl
theorem uri_of {p u:Tx} (B:BS L a b ds ts (ss ++ [s])) (hp:p ∈ prefMenu) (hg:(get s p).getD [] = u) (hu:p ≠ [] -> u ≠ []):Ok (R0 wf (n + 1) 278 [.ref 0,.str (T p)] [] L) (.str (T u)) L:=by
 obtain ⟨es,d,rfl,hd,_⟩:=B.hd.last
 have bd:=B.bd
 rw [List.length_append] at bd
 have ha:=B.ha
 rw [List.map_append] at ha
 have sl:=sub_lastr ha (by rw [List.length_map]; exact Nat.lt_trans (head_lt bd) (by decide))
 have gt:bmF false .get (.ref d) [.str (T p)] L = .ok (((get s p).map fun u => V.str (T u)).getD .none) L :=
  oO_some (o:=dictAt L d) (dictAt_eq hd) (by show Out.ok (((scL s).lookup (T p)).getD .none) L = _; rw [lookup_scL])
 refine ok_r0 rfl rfl fun P kk => elo_ok (eqs_f fun e => (pref_len p hp).2 (T_inj.mp e)) (br_f rfl (elo_ok (b_scopes B) (elo_ok sl (elo_ok (selF_get hd) (el_ok gt ?_)))))
 cases g:get s p with
 | none =>
  rw [g] at hg
  have u0:u = []:=hg.symm
  have p0:p = []:=Classical.byContradiction fun z => hu z u0
  rw [u0] at kk
  exact elo_ok (a:=true) rfl (br_t rfl (elo_ok (nes_f (congrArg T p0)) (br_f rfl kk)))
 | some w =>
  rw [g] at hg
  have:w = u:=hg
  subst this
  exact elo_ok (a:=false) rfl (br_f rfl kk)
theorem resolved_el {m:Tx × Tx} (B:BS L a b ds ts (ss ++ [s])) (h:m ∈ elMenu) (hg:(get s (pfx m.1)).getD [] = m.2):Ok (R0 wf (n + 8) 286 [.ref 0,.str (T m.1)] [] L) (.tup [.str (T m.2),.str (T (lcl m.1))]) L:=by
 have om:=own_menu m h
 have ur:=uri_of (wf:=wf) (n:=n + 6) B (pref_of _ om.1) hg om.2.2.1
 refine ok_r0 rfl rfl fun P kk => ca_ok (sn_el h) ?_
 by_cases z:pfx m.1 = []
 ·exact elo_ok (eqs_t (congrArg T z)) (br_t rfl (br_f rfl (br_f rfl (elo_ok (b_sel B (by kernel_rfl)) (ca_ok ur kk)))))
 ·exact elo_ok (eqs_f fun e => z (T_inj.mp e)) (br_f rfl (br_f rfl (elo_ok (b_sel B (by kernel_rfl)) (ca_ok ur kk))))
theorem resolved_at {m:Tx × Tx} (B:BS L a b ds ts (ss ++ [s])) (h:m ∈ atMenu) (hg:pfx m.1 ≠ [] -> (get s (pfx m.1)).getD [] = m.2):Ok (R0 wf (n + 8) 286 [.ref 0,.str (T m.1),.bool true] [] L) (.tup [.str (T m.2),.str (T (lcl m.1))]) L:=by
 have om:=att_menu m h
 refine ok_r0 rfl rfl fun P kk => ca_ok (sn_at h) ?_
 by_cases z:pfx m.1 = []
 ·rw [om.2 z] at kk
  exact elo_ok (eqs_t (congrArg T z)) (br_t rfl (br_t rfl (br_t rfl kk)))
 ·exact elo_ok (eqs_f fun e => z (T_inj.mp e)) (br_f rfl (br_f rfl (elo_ok (b_sel B (by kernel_rfl)) (ca_ok (uri_of (wf:=wf) (n:=n + 6) B (pref_of _ (om.1 z).1) (hg z) fun _ => (om.1 z).2) kk))))
end
section
variable {wf n:Nat} {L:St} {a b:Nat} {ds:List Nat} {ts:List V} {ss:List Sp} {s:Sp} {P:PX} {N:KN} {mk:Bool}
theorem BS.more {ext:St} (B:BS L a b ds ts ss) (h:ext.all Cell.nolst = true):BS (L ++ ext) a b ds ts ss :=
 ⟨get_app B.i,get_app B.ha,get_app B.hb,B.ne,B.len,B.hd.mono (Grow.app (Nat.zero_le _)),all_app B.nl h,B.bd⟩
noncomputable def seenLy (l:List Att):List (List Str × V):=l.map fun a => ([T a.uri,T a.loc],V.str (T a.nm))
noncomputable def seenC:List Att -> Cell
 | [] => .dict []
 | x :: r => .tdict (seenLy (x :: r))
theorem seen_nl:∀ l,(seenC l).nolst = true
 | [] => rfl
 | x :: r => by
  show (seenLy (x :: r)).all (fun p => p.2.nolst) = true
  rw [List.all_eq_true]
  intro y hy
  obtain ⟨w,_,rfl⟩:=List.mem_map.mp hy
  rfl
theorem seen_all {l:List Att}:[seenC l].all Cell.nolst = true:=by rw [List.all_cons,seen_nl]; rfl
theorem seen_no {u l:Tx} {as:List Att} (h:(u,l) ∉ as.map key):(seenLy as).lookup [T u,T l] = none:=by
 induction as with
 | nil => rfl
 | cons a as ih =>
  have e:(([T u,T l]:List Str) == [T a.uri,T a.loc]) = false:=beq_eq_false_iff_ne.mpr fun z => h (by
   injection z with z1 z2
   injection z2 with z2 _
   rw [T_inj.mp z1,T_inj.mp z2]; exact .head _)
  rw [seenLy,List.map_cons,List.lookup,e]
  exact ih fun q => h (.tail _ q)
theorem seen_in {σ:St} {S:Nat} {as:List Att} {u l:Tx} (e:σ[S]? = some (seenC as)) (h:(u,l) ∉ as.map key):cmpQ σ .In (.tup [.str (T u),.str (T l)]) (.ref S) = some false:=by
 show (σ[S]?).bind (inT [T u,T l]) = _
 rw [e]
 cases as with
 | nil => rfl
 | cons x r => exact congrArg (fun o:Option V => some o.isSome) (seen_no h)
theorem seen_put {σ:St} {S:Nat} {as:List Att} {x:Att} (e:σ[S]? = some (seenC as)) (h:key x ∉ as.map key) (hl:as.length < 1000):setItemF (.ref S) (.tup [.str (T x.uri),.str (T x.loc)]) (.str (T x.nm)) σ = some (σ.set S (seenC (as ++ [x]))):=by
 show ((σ[S]?).bind (setTC [T x.uri,T x.loc] (.str (T x.nm)))).map (fun c => σ.set S c) = _
 rw [e]
 cases as with
 | nil => rfl
 | cons y r =>
  show (if (seenLy (y :: r)).length < big /\ (seenLy (y :: r)).lookup [T x.uri,T x.loc] = none then some (Cell.tdict (seenLy (y :: r) ++ [([T x.uri,T x.loc],V.str (T x.nm))])) else none).map (fun c => σ.set S c) = _
  rw [if_pos ⟨by rw [seenLy,List.length_map]; exact big_of hl,seen_no h⟩]
  show _ = some (σ.set S (.tdict (seenLy (y :: r ++ [x]))))
  rw [seenLy,seenLy,List.map_append]; rfl
noncomputable def bodyK:CSs:=(.cons (.asg 5 (.meth false (.var 0) "resolved" [(303,286)] .none (.cons (.var 3) (.cons (.const (.bool true)) .nil)) [] .nil)) (.cons (.ite (.cmp (.var 5) [.In] (.cons (.var 2) .nil)) (.cons (.raise 51 (.bin false .Add (.bin false .Add (.bin false .Add (.bin false .Add (.const (.str "two attributes ")) (.sub (.var 2) (.var 5))) (.const (.str (T [32,97,110,100,32])))) (.var 3)) (.const (.str " are the same")))) .nil) .nil) (.cons (.setitem (.var 2) (.var 5) (.var 3)) .nil)))
noncomputable abbrev frK (l:List V) (S:Nat) (x3 x4 x5:Option V):Fr:=[some (.ref 0),some (.tup l),some (.ref S),x3,x4,x5]
structure AtS (s:Sp) (x:Att):Prop where
 m:(x.nm,x.uri) ∈ atMenu
 l:x.loc = lcl x.nm
 g:pfx x.nm ≠ [] -> (get s (pfx x.nm)).getD [] = x.uri
noncomputable def attV (l:List Att):List V:=pairV (ans l)
theorem loopK (B:BS L a b ds ts (ss ++ [s])) {l0:List V} (l:List Att):∀ (done:List Att) (x3 x4 x5:Option V),(∀ x ∈ l,AtS s x) -> ((done ++ l).map key).Nodup -> done.length + l.length < 900 -> (∀ y3 y4 y5,N ⟨cx0 wf (n + 8),P⟩ (frK l0 L.length y3 y4 y5) (L ++ [seenC (done ++ l)])) ->
  forP (fun _ => true) (B2 3 4 bodyK) (attV l) ⟨cx0 wf (n + 8),P⟩ (frK l0 L.length x3 x4 x5) (L ++ [seenC done]) N:=by
 induction l with
 | nil => exact fun done x3 x4 x5 _ _ _ kk => ⟨rfl,by have:=kk x3 x4 x5; rwa [List.append_nil] at this⟩
 | cons x l ih =>
  intro done x3 x4 x5 h nd hl kk
  have hx:=h x (.head _)
  have B1:=B.more (seen_all (l:=done))
  have rs:=resolved_at (wf:=wf) (n:=n) (m:=(x.nm,x.uri)) B1 hx.m hx.g
  rw [<- hx.l] at rs
  have nk:key x ∉ done.map key:=by
   rw [List.map_append,List.map_cons,List.nodup_append] at nd
   exact fun z => nd.2.2 _ z _ (.head _) rfl
  rw [List.append_cons done] at nd kk
  have sp:=seen_put (σ:=L ++ [seenC done]) (S:=L.length) (x:=x) app_get nk (Nat.lt_trans (head_lt hl) (by decide))
  rw [app_set] at sp
  exact ⟨rfl,elo_ok (b_sel B1 (by kernel_rfl)) (ca_ok rs (elo_ok (seen_in app_get nk) (br_f rfl (elo_ok sp (ih (done ++ [x]) _ _ _ (fun y hy => h y (.tail _ hy)) nd (snoc_lt hl) kk)))))⟩
theorem check_ok (B:BS L a b ds ts (ss ++ [s])) {l:List Att} (h:∀ x ∈ l,AtS s x) (nd:(l.map key).Nodup) (hl:l.length < 900):Ok (R0 wf (n + 9) 293 [.ref 0,.tup (attV l)] [] L) .none (L ++ [seenC l]) :=
 ok_r0 rfl rfl fun P kk => ⟨rfl,elo_ok rfl (loopK B l [] none none none h nd (by rw [List.length_nil,Nat.zero_add]; exact hl) fun _ _ _ => kk)⟩
theorem BS.a0 (B:BS L a b ds ts ss):a ≠ 0:=fun z => by have:=B.i; rw [<- z,B.ha] at this; cases this
theorem BS.b0 (B:BS L a b ds ts ss):b ≠ 0:=fun z => by have:=B.i; rw [<- z,B.hb] at this; cases this
theorem BS.midb {l:List V} (B:BS L a b ds ts ss):(L.set a (.list l))[b]? = some (.list ts):=(List.getElem?_set_ne B.ne).trans B.hb
theorem BS.midt {l:List V} (B:BS L a b ds ts ss):attrF (L.set a (.list l)) (.ref 0) "told" [303] = some (.ref b):=attr_ref ((List.getElem?_set_ne B.a0).trans B.i) (by decide) (by kernel_rfl)
theorem BS.nts (B:BS L a b ds ts ss):V.nolsts ts = true:=List.all_eq_true.mp B.nl _ (List.mem_of_getElem? B.hb)
theorem BS.put {ds':List Nat} {ts':List V} {ss':List Sp} (B:BS L a b ds ts ss) (len:ts'.length = ds'.length) (hd:DS L ds' ss') (nt:V.nolsts ts' = true) (bd:ds'.length < 800000):BS ((L.set a (.list (ds'.map .ref))).set b (.list ts')) a b ds' ts' ss':=by
 have g1:Grow 0 L (L.set a (.list (ds'.map .ref))):=Grow.set (Nat.zero_le _) B.ha
 have g2:Grow 0 (L.set a (.list (ds'.map .ref))) ((L.set a (.list (ds'.map .ref))).set b (.list ts')):=Grow.set (Nat.zero_le _) B.midb
 exact ⟨(List.getElem?_set_ne B.b0).trans ((List.getElem?_set_ne B.a0).trans B.i),(List.getElem?_set_ne (Ne.symm B.ne)).trans (List.getElem?_set_self (lt_of_get B.ha)),List.getElem?_set_self (lt_of_get B.midb),B.ne,len,(hd.mono g1).mono g2,all_set (all_set B.nl (nolst_rf ds')) nt,bd⟩
theorem leave_ok (B:BS L a b ds ts (ss ++ [s])) (h0:ss ≠ []):∃ L' ds' ts',Ok (R0 wf (n + 1) 257 [.ref 0] [] L) .none L' /\ BS L' a b ds' ts' ss:=by
 obtain ⟨es,d,hes,hd,hD⟩:=B.hd.last
 have el:es.length = ss.length:=hD.len
 have bd:=B.bd
 have tl:=B.len
 have ha:=B.ha
 rw [hes,List.map_append] at ha
 rw [hes,List.length_append] at bd tl
 obtain ⟨ts',t,rfl⟩:=snoc_of (l:=ts) fun z => by rw [z] at tl; cases tl
 rw [List.length_append] at tl
 have tl:ts'.length = es.length:=Nat.succ.inj tl
 have e9:es.length < 900000:=Nat.lt_trans (head_lt bd) (by decide)
 have ln:=len_ref (mk:=false) ha (by rw [List.length_append,List.length_map]; exact Nat.le_trans (Nat.succ_le_of_lt e9) (by decide))
 rw [List.length_append,List.length_map] at ln
 have e0:0 < es.length:=by rw [el]; exact List.length_pos_iff.mpr h0
 have z:¬ ((es.length + [V.ref d].length:Nat):Int) = 1:=fun z => Nat.ne_of_gt e0 (Nat.succ.inj (Int.ofNat.inj z))
 refine ⟨_,es,ts',ok_r0 rfl rfl fun P kk => elo_ok (b_scopes B) (el_ok ln (elo_ok (eqi_f z) (br_f rfl (elo_ok (b_scopes B) (elo_ok (selF_pop ha) (el_ok (pop_ref ha (by rw [List.length_map]; exact big9 e9)) (elo_ok B.midt (elo_ok (selF_pop B.midb) (el_ok (pop_ref B.midb (by rw [tl]; exact big9 e9)) kk))))))))),B.put tl hD (nolsts_left B.nts) (head_lt bd)⟩
noncomputable def bodyQ:CSs:=(.cons (.asg 6 (.fn 222 (.cons (.var 4) .nil) [] .nil)) (.cons (.ite (.cmp (.var 6) [.Is] (.cons (.const (.none)) .nil)) (.cons (.expr (.meth false (.var 2) "append" [] (some .append) (.cons (.tup (.cons (.var 4) (.cons (.var 5) .nil))) .nil) [] .nil)) .nil) (.cons (.expr (.fn 229 (.cons (.var 6) (.cons (.var 5) .nil)) [] .nil)) (.cons (.expr (.meth false (.var 3) "append" [] (some .append) (.cons (.tup (.cons (.var 6) (.cons (.var 5) .nil))) .nil) [] .nil)) .nil))) .nil))
noncomputable abbrev frQ (l:List V) (M:Nat) (x4 x5 x6 x7 x8:Option V):Fr:=[some (.ref 0),some (.tup l),some (.ref M),some (.ref (M + 1)),x4,x5,x6,x7,x8]
noncomputable abbrev S2 (L:St) (O F:List Pr):St:=L ++ [.list (pairV O),.list (pairV F)]
theorem s2_0 {O F:List Pr}:(S2 L O F)[L.length]? = some (.list (pairV O)):=ap_get (j:=0)
theorem s2_1 {O F:List Pr}:(S2 L O F)[L.length + 1]? = some (.list (pairV F)):=ap_get
theorem s2_app0 {O F:List Pr} {w:Pr} (h:O.length < 1000):bmF mk .append (.ref L.length) [.tup [.str (T w.1),.str (T w.2)]] (S2 L O F) = .ok .none (S2 L (O ++ [w]) F):=by
 rw [append_ref s2_0 (by rw [pairV_len]; exact big_of h),<- pairV_snoc]
 exact congrArg _ (ap_set (j:=0))
theorem s2_app1 {O F:List Pr} {w:Pr} (h:F.length < 1000):bmF mk .append (.ref (L.length + 1)) [.tup [.str (T w.1),.str (T w.2)]] (S2 L O F) = .ok .none (S2 L O (F ++ [w])):=by
 rw [append_ref s2_1 (by rw [pairV_len]; exact big_of h),<- pairV_snoc]
 exact congrArg _ ap_set
theorem loopQ1 {l0 rest:List V} {O:List Pr} (l:List Pr):∀ (F:List Pr) (x4 x5 x6:Option V),(∀ p ∈ l,p ∈ pairMenu) -> F.length + l.length < 900 -> (∀ y4 y5 y6,forP (fun _ => true) (B2 4 5 bodyQ) rest ⟨cx0 wf (n + 7),P⟩ (frQ l0 L.length y4 y5 y6 none none) (S2 L O (F ++ l)) N) ->
  forP (fun _ => true) (B2 4 5 bodyQ) (pairV (xns l) ++ rest) ⟨cx0 wf (n + 7),P⟩ (frQ l0 L.length x4 x5 x6 none none) (S2 L O F) N:=by
 induction l with
 | nil => exact fun F x4 x5 x6 _ _ kk => by have:=kk x4 x5 x6; rwa [List.append_nil] at this
 | cons p l ih =>
  intro F x4 x5 x6 h hl kk
  have hp:=h p (.head _)
  rw [List.append_cons] at kk
  exact ⟨rfl,ca_ok (dp_xn (pref_of _ hp)) (elo_ok (a:=false) rfl (br_f rfl (ca_ok (cb_ok hp) (elo_ok (selF_append s2_1) (el_ok (s2_app1 (w:=p) (Nat.lt_trans (head_lt hl) (by decide))) (ih (F ++ [p]) _ _ _ (fun q hq => h q (.tail _ hq)) (snoc_lt hl) kk))))))⟩
theorem loopQ2 {l0:List V} {F:List Pr} (l:List Att):∀ (O:List Pr) (x4 x5 x6:Option V),(∀ x ∈ l,(x.nm,x.uri) ∈ atMenu) -> O.length + l.length < 900 -> (∀ y4 y5 y6,N ⟨cx0 wf (n + 7),P⟩ (frQ l0 L.length y4 y5 y6 none none) (S2 L (O ++ ans l) F)) ->
  forP (fun _ => true) (B2 4 5 bodyQ) (attV l) ⟨cx0 wf (n + 7),P⟩ (frQ l0 L.length x4 x5 x6 none none) (S2 L O F) N:=by
 induction l with
 | nil => exact fun O x4 x5 x6 _ _ kk => ⟨rfl,by have:=kk x4 x5 x6; rwa [ans,List.map_nil,List.append_nil] at this⟩
 | cons x l ih =>
  intro O x4 x5 x6 h hl kk
  rw [ans,List.map_cons,List.append_cons] at kk
  exact ⟨rfl,ca_ok (dp_at (m:=(x.nm,x.uri)) (h x (.head _))) (elo_ok (a:=true) rfl (br_t rfl (elo_ok (selF_append s2_0) (el_ok (s2_app0 (w:=(x.nm,x.val)) (Nat.lt_trans (head_lt hl) (by decide))) (ih _ _ _ _ (fun q hq => h q (.tail _ hq)) (snoc_le hl) kk)))))⟩
noncomputable def bodyP:CSs:=(.cons (.setitem (.var 7) (.var 6) (.var 8)) .nil)
theorem loopP {l0:List V} {x4 x5:Option V} {M:Nat} {σ:St} {kp:St -> Bool} (hk:∀ s,kp (σ ++ [.dict (scL s)]) = true) (l:List Pr):∀ (s:Sp) (x6 x8:Option V),s.length + l.length < 900000 -> (∀ y6 y8,N ⟨cx0 wf n,P⟩ (frQ l0 M x4 x5 y6 (some (.ref σ.length)) y8) (σ ++ [.dict (scL (puts s l))])) ->
  forP kp (B2 6 8 bodyP) (pairV l) ⟨cx0 wf n,P⟩ (frQ l0 M x4 x5 x6 (some (.ref σ.length)) x8) (σ ++ [.dict (scL s)]) N:=by
 induction l with
 | nil => exact fun s x6 x8 _ kk => ⟨hk s,kk x6 x8⟩
 | cons w l ih =>
  intro s x6 x8 hl kk
  have sr:=set_ref (σ:=σ ++ [.dict (scL s)]) (d:=σ.length) (s:=s) (p:=w.1) (u:=w.2) app_get (head_lt hl)
  rw [app_set] at sr
  exact ⟨hk s,elo_ok sr (ih (put s w.1 w.2) _ _ (put_le hl) kk)⟩
theorem tuple_ref {σ:St} {k:Nat} {l:List V} (e:σ[k]? = some (.list l)) (h:l.length < 1000):bfF mk .tuple [.ref k] σ = .ok (.tup l) σ:=oO_some (getL_ref e) (if_pos (Nat.le_of_lt (big_of h)))
theorem bs_made {σ:St}:∃ L,Ok (clsF (cx1 wf (n + 1)) 303 243 [] σ) (.ref σ.length) (σ ++ [.pack L]) /\ ∃ a b ds ts,BS L a b ds ts [xmlS] /\ ds.length = 1:=by
 refine ⟨[.inst 303 [("scopes",.ref 2),("told",.ref 3)],.dict (scL xmlS),.list [.ref 1],.list [.tup []]],fun K X q => ?_,2,3,[1],[.tup []],⟨rfl,rfl,rfl,by decide,rfl,.cons rfl .nil,rfl,(by decide:1 < 800000)⟩,rfl⟩
 unfold clsF
 have i:Ok (R0 wf (n + 1) 243 [.ref 0] [] [.inst 303 []]) .none [.inst 303 [("scopes",.ref 2),("told",.ref 3)],.dict (scL xmlS),.list [.ref 1],.list [.tup []]] :=
  ok_r0 rfl rfl fun P kk => ⟨rfl,elo_ok (setattr_ref (c:=303) (k:=0) (fs:=[]) rfl (by decide) (by decide)) (elo_ok (setattr_ref (c:=303) (k:=0) (fs:=[("scopes",.ref 2)]) rfl (by decide) (show 1 < 1000 by decide)) (by rw [<- xml_dict] at kk; exact kk))⟩
 exact ⟨rfl,i _ _ ⟨rfl,by rw [List.all_cons,List.all_cons,nolst_scL]; rfl,rfl,q⟩⟩
theorem enter_tail {l0:List V} {M d:Nat} {O F:List Pr} {s':Sp} {x4 x5 x6 x8:Option V} (B:BS L a b ds ts (ss ++ [s])) (hl:ds.length < 700000) (hd:L[d]? = some (.dict (scL s'))) (q0:L[M]? = some (.list (pairV O))) (q1:L[M + 1]? = some (.list (pairV F))) (na:M ≠ a /\ M ≠ b /\ M + 1 ≠ a) (lO:O.length < 1000) (lF:F.length < 1000)
  (kk:∀ L' ts',BS L' a b (ds ++ [d]) ts' (ss ++ [s] ++ [s']) -> P.ret (.tup (pairV O)) L') :
  evSs (.cons (.expr (.meth false (.attr (.var 0) "scopes" [303]) "append" [] (some .append) (.cons (.var 7) .nil) [] .nil)) (.cons (.expr (.meth false (.attr (.var 0) "told" [303]) "append" [] (some .append) (.cons (.bf false .tuple (.cons (.var 3) .nil)) .nil) [] .nil)) (.cons (.ret (.bf false .tuple (.cons (.var 2) .nil))) .nil))) ⟨cx0 wf n,P⟩ (frQ l0 M x4 x5 x6 (some (.ref d)) x8) L endN:=by
 have tl:=B.len
 have l9:ds.length < 900000:=Nat.lt_trans hl (by decide)
 have e1:ds.map V.ref ++ [.ref d] = (ds ++ [d]).map .ref:=by rw [List.map_append]; rfl
 refine elo_ok (b_scopes B) (elo_ok (selF_append B.ha) (el_ok (append_ref B.ha (by rw [List.length_map]; exact big9 l9)) (elo_ok B.midt (elo_ok (selF_append B.midb) (el_ok (tuple_ref ((List.getElem?_set_ne (Ne.symm na.2.2)).trans q1) (by rw [pairV_len]; exact lF)) (el_ok (append_ref B.midb (by rw [tl]; exact big9 l9)) (el_ok (tuple_ref ((List.getElem?_set_ne (Ne.symm na.2.1)).trans ((List.getElem?_set_ne (Ne.symm na.1)).trans q0)) (by rw [pairV_len]; exact lO)) (kk _ (ts ++ [.tup (pairV F)]) ?_))))))))
 rw [e1]
 exact B.put (by rw [List.length_append,List.length_append,tl]; rfl) (B.hd.snoc hd) (nolsts_app B.nts (by show (V.nolst (.tup (pairV F)) && true) = true; rw [Bool.and_true]; exact nolst_pairV F)) (by rw [List.length_append]; exact Nat.lt_of_le_of_lt (Nat.succ_le_of_lt hl) (by decide))
theorem enter_ok (B:BS L a b ds ts (ss ++ [s])) (hl:ds.length < 600000) {F:List Pr} {as:List Att} (hF:∀ p ∈ F,p ∈ pairMenu) (hA:∀ x ∈ as,(x.nm,x.uri) ∈ atMenu) (lF:F.length < 100) (lA:as.length < 100) (sl:s.length < 800000) :
  ∀ K X,(∀ L' ds' ts',BS L' a b ds' ts' (ss ++ [s] ++ [puts s F]) -> ds'.length = ds.length + 1 -> K (.tup (attV as)) L') -> R0 wf (n + 8) 250 [.ref 0,.tup (pairV (xns F ++ ans as))] [] L K X:=by
 intro K X kk
 have la:=lt_of_get B.ha
 have lb:=lt_of_get B.hb
 have hl7:ds.length < 700000:=Nat.lt_trans hl (by decide)
 have lO:(ans as).length < 1000:=by rw [ans,List.length_map]; exact Nat.lt_trans lA (by decide)
 have BB:BS (S2 L (ans as) F) a b ds ts (ss ++ [s]):=B.more (by show (V.nolsts _ && (V.nolsts _ && true)) = true; rw [nolst_pairV,nolst_pairV]; rfl)
 obtain ⟨es,d,hes,hd,hD⟩:=BB.hd.last
 have ha:=BB.ha
 rw [hes,List.map_append] at ha
 have e9:es.length < 900000:=by rw [hes,List.length_append] at hl; exact Nat.lt_trans (head_lt hl) (by decide)
 have na:L.length ≠ a /\ L.length ≠ b /\ L.length + 1 ≠ a:=⟨Nat.ne_of_gt la,Nat.ne_of_gt lb,Nat.ne_of_gt (Nat.lt_succ_of_lt la)⟩
 refine r0_of rfl rfl fun P hr _ => ?_
 have kk':∀ d L' ts',BS L' a b (ds ++ [d]) ts' (ss ++ [s] ++ [puts s F]) -> P.ret (.tup (pairV (ans as))) L':=fun d L' ts' h => hr _ _ (kk L' _ _ h List.length_append)
 have main:forP (fun _ => true) (B2 4 5 bodyQ) (pairV (xns F) ++ attV as) ⟨cx0 wf (n + 7),P⟩ (frQ (pairV (xns F ++ ans as)) L.length none none none none none) (S2 L [] []) fun e fr σ => evSs (.cons (.asg 7 (.sub (.attr (.var 0) "scopes" [303]) (.neg (.const (.int 1))))) (.cons (.ite (.cmp (.var 3) [.NotEq] (.cons (.list false .nil) .nil)) (.cons (.asg 7 (.bf false .dict (.cons (.var 7) .nil))) (.cons (.for2 6 8 (.var 3) bodyP) .nil)) .nil) (.cons (.expr (.meth false (.attr (.var 0) "scopes" [303]) "append" [] (some .append) (.cons (.var 7) .nil) [] .nil)) (.cons (.expr (.meth false (.attr (.var 0) "told" [303]) "append" [] (some .append) (.cons (.bf false .tuple (.cons (.var 3) .nil)) .nil) [] .nil)) (.cons (.ret (.bf false .tuple (.cons (.var 2) .nil))) .nil))))) e fr σ endN:=by
  refine loopQ1 F [] none none none hF (by rw [List.length_nil,Nat.zero_add]; exact Nat.lt_trans lF (by decide)) fun y4 y5 y6 => loopQ2 as [] y4 y5 y6 hA (by rw [List.length_nil,Nat.zero_add]; exact Nat.lt_trans lA (by decide)) fun z4 z5 z6 => ?_
  rw [List.nil_append,List.nil_append]
  refine elo_ok (b_scopes BB) (elo_ok (sub_lastr ha (by rw [List.length_map]; exact e9)) ?_)
  by_cases z:F = []
  ·have q1:(S2 L (ans as) F)[L.length + 1]? = some (.list []):=by rw [s2_1,z]; rfl
   rw [z] at kk'
   exact elo_ok (ne_nil0 (getL_ref q1)) (br_f rfl (enter_tail (s':=s) BB hl7 hd s2_0 s2_1 na lO (Nat.lt_trans lF (by decide)) (kk' d)))
  ·have pz:pairV F ≠ []:=fun h => z (List.map_eq_nil_iff.mp h)
   refine elo_ok (ne_nil (getL_ref s2_1) pz) (br_t rfl (el_ok (dict_ref hd (by rw [scL_len]; exact Nat.le_of_lt (Nat.lt_trans sl (by decide)))) (elo_ok (items_ref (get_app s2_1)) (loopP (fun s => keep_ref (get_app s2_1)) F s z6 none ?_ fun y6 y8 => ?_))))
   ·exact Nat.lt_trans (Nat.add_lt_add sl lF) (by decide)
   ·exact enter_tail (s':=puts s F) (BB.more (by rw [List.all_cons,nolst_scL]; rfl)) hl7 app_get (get_app s2_0) (get_app s2_1) na lO (Nat.lt_trans lF (by decide)) (kk' _)
 have pe:pairV (xns F ++ ans as) = pairV (xns F) ++ attV as:=List.map_append
 have go:∀ σ2 X m,m = L.length + 1 -> σ2 = S2 L [] [] -> X = pairV (xns F) ++ attV as -> forP (fun _ => true) (B2 4 5 bodyQ) X ⟨cx0 wf (n + 7),P⟩ [some (.ref 0),some (.tup (pairV (xns F ++ ans as))),some (.ref L.length),some (.ref m),none,none,none,none,none] σ2 _:=fun σ2 X m e0 e1 e2 => by subst e0; subst e1; subst e2; exact main
 refine elo_ok rfl (go _ _ _ ?_ ?_ pe)
 ·exact List.length_append
 ·exact List.append_assoc ..
end
noncomputable def QS (σ:St) (k kb:Nat) (rows:List Row) (L:St):St:=(σ.set k (.pack (tree rows))).set kb (.pack L)
section
variable {wf n k kb:Nat} {σ:St} {rows rows' rows0:List Row} {L L':St} {a b p:Nat} {ds:List Nat} {ts:List V} {ss:List Sp} {s:Sp} {r:Row} {X:List V} {nm:Tx} {P:PX} {N:KN} {x6 x7 x8 x9 x10:Option V}
structure QH (σ:St) (k kb:Nat):Prop where
 hk:k < σ.length
 hkb:kb < σ.length
 ne:k ≠ kb
theorem qt (q:QH σ k kb) (h:rows.length <= big):IsT (QS σ k kb rows L) k rows:=⟨by rw [QS,List.getElem?_set_ne (Ne.symm q.ne),List.getElem?_set_self q.hk],h⟩
theorem qb (q:QH σ k kb):(QS σ k kb rows L)[kb]? = some (.pack L):=by rw [QS,List.getElem?_set_self (by rw [List.length_set]; exact q.hkb)]
theorem qsk (q:QH σ k kb):(QS σ k kb rows L).set k (.pack (tree rows')) = QS σ k kb rows' L:=by rw [QS,QS,List.set_comm _ _ (Ne.symm q.ne),List.set_set]
theorem qsb (q:QH σ k kb):(QS σ k kb rows L).set kb (.pack L') = QS σ k kb rows L':=by rw [QS,QS,List.set_set]
theorem qsel {m:Str} {f:Addr} {bm:Option BM} (q:QH σ k kb) (B:BS L a b ds ts ss) (h:([("scopes",V.ref a),("told",.ref b)]:List (Str × V)).lookup m = none):selF m [(303,f)] bm (.ref kb) (QS σ k kb rows L) = some (.pk f):=selF_pack (qb q) B.i h rfl
theorem inner_cps {f:Addr} {args:List V} {K:V -> St -> Prop} {X:Addr -> St -> Prop} {k:Nat} (e:σ[k]? = some (.pack L)) (ha:V.norefs args = true) (h:R0 wf n f (.ref 0 :: args) [] L (fun v L' => v.noref = true /\ L'.all Cell.nolst = true /\ K v (σ.set k (.pack L'))) (fun _ _ => False)):innF (cx1 wf n) f (.ref k) args [] σ K X:=by
 unfold innF
 exact ⟨k,L,rfl,e,ha,rfl,h⟩
theorem xn_cases {p:Tx} (h:p ∈ prefMenu):p = [] /\ xn p = [120,109,108,110,115] \/ xn p = [120,109,108,110,115,58] ++ p /\ xn p ≠ [120,109,108,110,115] /\ (xn p).length < 900 :=
 (by decide +kernel:∀ p ∈ prefMenu,p = [] /\ xn p = [120,109,108,110,115] \/ xn p = [120,109,108,110,115,58] ++ p /\ xn p ≠ [120,109,108,110,115] /\ (xn p).length < 900) p h
noncomputable def bodyB1:CSs:=(.cons (.ite (.cmp (.var 6) [.Eq] (.cons (.const (.str (T [120,109,108,110,115]))) .nil)) (.cons (.expr (.meth false (.var 0) "add_namespace" [(536,442)] .none (.cons (.var 5) (.cons (.const (.str (T []))) (.cons (.var 7) .nil))) [] .nil)) .nil) (.cons (.ite (.cmp (.slice false (.var 6) (.const (.none)) (.const (.int 6)) (.const (.none))) [.Eq] (.cons (.const (.str (T [120,109,108,110,115,58]))) .nil)) (.cons (.expr (.meth false (.var 0) "add_namespace" [(536,442)] .none (.cons (.var 5) (.cons (.slice false (.var 6) (.const (.int 6)) (.const (.none)) (.const (.none))) (.cons (.var 7) .nil))) [] .nil)) .nil) .nil) .nil)) .nil)
noncomputable def bodyB2:CSs:=(.cons (.asg2 9 10 (.meth false (.var 4) "resolved" [(303,286)] .none (.cons (.var 6) (.cons (.const (.bool true)) .nil)) [] .nil)) (.cons (.expr (.meth false (.var 0) "set_attribute" [(536,435)] .none (.cons (.var 5) (.cons (.var 6) (.cons (.var 9) (.cons (.var 10) (.cons (.var 7) .nil))))) [] .nil)) .nil))
noncomputable abbrev frB (k p:Nat) (nm:Tx) (X:List V) (kb id:Nat) (x6 x7 x8 x9 x10:Option V):Fr:=[some (.ref k),some (iv p),some (.str (T nm)),some (.tup X),some (.ref kb),some (iv id),x6,x7,x8,x9,x10]
theorem loopB1 (q:QH σ k kb) (hp:p < rows0.length) {rest:List V} (l:List Pr):∀ (rows:List Row) (h:Head) (m:Nat) (x6 x7:Option V),(∀ w ∈ l,w ∈ pairMenu) -> ((h.ns ++ l).map (·.1)).Nodup -> ElRow rows0 rows p r h m -> h.ns.length + l.length < 900 -> rows0.length + m + l.length < big ->
  (∀ rows' y6 y7,ElRow rows0 rows' p r { h with ns:=h.ns ++ l } (m + l.length) -> forP (fun _ => true) (B2 6 7 bodyB1) rest ⟨cx1 wf (n + 3),P⟩ (frB k p nm X kb rows0.length y6 y7 x8 x9 x10) (QS σ k kb rows' L) N) ->
  forP (fun _ => true) (B2 6 7 bodyB1) (pairV (xns l) ++ rest) ⟨cx1 wf (n + 3),P⟩ (frB k p nm X kb rows0.length x6 x7 x8 x9 x10) (QS σ k kb rows L) N:=by
 induction l with
 | nil => exact fun rows h m x6 x7 _ _ E _ _ kk => kk rows x6 x7 (by rw [List.append_nil]; exact E)
 | cons w l ih =>
  intro rows h m x6 x7 hm nd E hl hb kk
  rw [List.length_cons] at hb kk
  have rb:rows.length < big:=Nat.lt_of_le_of_lt E.le (head_lt hb)
  obtain ⟨e,he,H,hpar⟩:=E.el
  have nx:w.1 ∉ h.ns.map (·.1):=by
   rw [List.map_append,List.map_cons,List.nodup_append] at nd
   exact fun z => nd.2.2 _ z _ (.head _) rfl
  have ps:∀ t:Tx,t = w.1 -> Ok (innF (cx1 wf (n + 3)) 442 (.ref k) [iv rows0.length,.str (T t),.str (T w.2)] [] (QS σ k kb rows L)) (iv rows.length) (QS σ k kb (nssed rows rows0.length e ⟨"namespace",T w.1,T [],T w.1,T w.2,some rows0.length,[],[],[]⟩) L):=fun t z => by
   subst z
   have ps:=pns_new (wf:=wf) (n:=n) (p:=T w.1) (u:=T w.2) (qt (L:=L) q (Nat.le_of_lt rb)) he H.1 rb (by rw [H.7.len]; exact big_of (Nat.lt_trans (head_lt hl) (by decide))) (NsRy.none H.7 nx)
   rwa [qsk q] at ps
  have sel:=fun {m:Str} (z:(m == ("rows":Str)) = false) => psel (m:=m) (f:=442) (b:=none) (qt (L:=L) q (Nat.le_of_lt rb)) z
  have nd':((h.ns ++ [w] ++ l).map (·.1)).Nodup:=by rw [<- List.append_cons]; exact nd
  have nx:=ih _ { h with ns:=h.ns ++ [w] } (m + 1) (some (.str (T (xn w.1)))) (some (.str (T w.2))) (fun w hw => hm w (.tail _ hw)) nd' (el_ns (x:=w.1) (u:=w.2) (new:=⟨"namespace",T w.1,T [],T w.1,T w.2,some rows0.length,[],[],[]⟩) E hp he rfl rfl rfl) (snoc_lt hl) (by rw [<- Nat.add_assoc,Nat.add_assoc (rows0.length + m),Nat.add_comm 1]; exact hb) fun rows' y6 y7 E3 => kk rows' y6 y7 (by rw [Nat.add_assoc,Nat.add_comm 1,<- List.append_cons] at E3; exact E3)
  refine ⟨rfl,?_⟩
  rcases xn_cases (pref_of _ (hm w (.head _))) with ⟨c1,c2⟩ | ⟨c1,c2,c3⟩
  ·exact elo_ok (eqs_t (congrArg T c2)) (br_t rfl (elo_ok (sel (by kernel_rfl)) (ca_ok (ps [] c1.symm) nx)))
  ·have s6:=sl_to (σ:=QS σ k kb rows L) (x:=xn w.1) (b:=6) (Nat.lt_trans c3 (by decide))
   rw [show (xn w.1).take 6 = [120,109,108,110,115,58] by rw [c1]; rfl] at s6
   have s7:=sl_from (σ:=QS σ k kb rows L) (x:=xn w.1) (a:=6) (z:=6) (Nat.lt_trans c3 (by decide)) rfl
   rw [show (xn w.1).drop 6 = w.1 by rw [c1]; rfl] at s7
   exact elo_ok (eqs_f fun e => c2 (T_inj.mp e)) (br_f rfl (el_ok s6 (elo_ok (eqs_t rfl) (br_t rfl (elo_ok (sel (by kernel_rfl)) (el_ok s7 (ca_ok (ps w.1 rfl) nx)))))))
theorem loopB1' {id:Nat} (l:List Att):∀ (x6 x7:Option V),(∀ x ∈ l,(x.nm,x.uri) ∈ atMenu) -> (∀ y6 y7,N ⟨cx1 wf n,P⟩ (frB k p nm X kb id y6 y7 x8 x9 x10) σ) -> forP (fun _ => true) (B2 6 7 bodyB1) (attV l) ⟨cx1 wf n,P⟩ (frB k p nm X kb id x6 x7 x8 x9 x10) σ N:=by
 induction l with
 | nil => exact fun x6 x7 _ kk => ⟨rfl,kk x6 x7⟩
 | cons x l ih =>
  intro x6 x7 h kk
  have f:=at_plain _ (h x (.head _))
  exact ⟨rfl,elo_ok (eqs_f fun e => f.1 (T_inj.mp e)) (br_f rfl (el_ok (sl_to (b:=6) (Nat.lt_trans (at_names _ (h x (.head _))).2.2 (by decide))) (elo_ok (eqs_f fun e => f.2.2 (T_inj.mp e)) (br_f rfl (ih _ _ (fun y hy => h y (.tail _ hy)) kk)))))⟩
theorem loopB2 (q:QH σ k kb) (hp:p < rows0.length) (B:BS L a b ds ts (ss ++ [s])) (l:List Att):∀ (rows:List Row) (h:Head) (m:Nat) (x6 x7 x9 x10:Option V),(∀ x ∈ l,AtS s x) -> ((h.ats ++ l).map key).Nodup -> ElRow rows0 rows p r h m -> h.ats.length + l.length < 900 -> rows0.length + m + l.length < big ->
  (∀ rows' y6 y7 y9 y10,ElRow rows0 rows' p r { h with ats:=h.ats ++ l } (m + l.length) -> N ⟨cx1 wf (n + 8),P⟩ (frB k p nm X kb rows0.length y6 y7 x8 y9 y10) (QS σ k kb rows' L)) ->
  forP (fun _ => true) (B2 6 7 bodyB2) (attV l) ⟨cx1 wf (n + 8),P⟩ (frB k p nm X kb rows0.length x6 x7 x8 x9 x10) (QS σ k kb rows L) N:=by
 induction l with
 | nil => exact fun rows h m x6 x7 x9 x10 _ _ E _ _ kk => ⟨rfl,kk rows x6 x7 x9 x10 (by rw [List.append_nil]; exact E)⟩
 | cons x l ih =>
  intro rows h m x6 x7 x9 x10 hm nd E hl hb kk
  rw [List.length_cons] at hb kk
  have rb:rows.length < big:=Nat.lt_of_le_of_lt E.le (head_lt hb)
  obtain ⟨e,he,H,hpar⟩:=E.el
  have hx:=hm x (.head _)
  have nx:key x ∉ h.ats.map key:=by
   rw [List.map_append,List.map_cons,List.nodup_append] at nd
   exact fun z => nd.2.2 _ z _ (.head _) rfl
  have T1:=qt (L:=L) q (Nat.le_of_lt rb)
  have rs:=inner_same (wf:=wf) (n:=n + 8) (f:=286) (args:=[.str (T x.nm),.bool true]) (qb (rows:=rows) (L:=L) q) rfl (resolved_at (wf:=wf) (n:=n) (m:=(x.nm,x.uri)) B hx.m hx.g) rfl B.nl
  rw [<- hx.l] at rs
  have ps:=pattr_new (wf:=wf) (n:=n + 5) (nm:=T x.nm) (u:=T x.uri) (l:=T x.loc) (v:=T x.val) T1 he H.1 rb (by rw [H.8.len]; exact big_of (Nat.lt_trans (head_lt hl) (by decide))) (AtRy.none H.8 nx)
  rw [qsk q] at ps
  have nd':((h.ats ++ [x] ++ l).map key).Nodup:=by rw [<- List.append_cons]; exact nd
  have nx:=ih _ { h with ats:=h.ats ++ [x] } (m + 1) (some (.str (T x.nm))) (some (.str (T x.val))) (some (.str (T x.uri))) (some (.str (T x.loc))) (fun w hw => hm w (.tail _ hw)) nd' (el_at (a:=x) (new:=⟨"attribute",T x.nm,T x.uri,T x.loc,T x.val,some rows0.length,[],[],[]⟩) E hp he rfl rfl rfl rfl rfl) (snoc_lt hl) (by rw [<- Nat.add_assoc,Nat.add_assoc (rows0.length + m),Nat.add_comm 1]; exact hb) fun rows' y6 y7 y9 y10 E3 => kk rows' y6 y7 y9 y10 (by rw [Nat.add_assoc,Nat.add_comm 1,<- List.append_cons] at E3; exact E3)
  exact ⟨rfl,elo_ok (qsel q B (by kernel_rfl)) (ca_ok rs (elo_ok (psel T1 (by kernel_rfl)) (ca_ok ps nx)))⟩
theorem told_pairV {h:Head} {ps:List Pr}:pairV (told h ps) = pairV (xns ps) ++ attV h.ats:=List.map_append
theorem wants_at {h:Head} {x:Att} (hx:x ∈ h.ats) (z:pfx x.nm ≠ []):(pfx x.nm,x.uri) ∈ wantsOf h :=
 .tail _ (List.mem_map.mpr ⟨x,List.mem_filter.mpr ⟨hx,decide_eq_true z⟩,rfl⟩)
theorem norefs1 {l:List Pr}:V.norefs [V.tup (pairV l)] = true:=by show (V.norefs (pairV l) && true) = true; rw [noref_pairV]; rfl
theorem start_okk {K:V -> St -> Prop} {X':Addr -> St -> Prop} {h:Head} (q:QH σ k kb) (B:BS L a b ds ts (ss ++ [s])) (hi:rows[p]? = some r) (hr:r.kind = "root" \/ r.kind = "element") (o:OkH h) (ol:h.ats.length <= 2) (hb:rows.length + 20 < big) (hc:r.ch.length < big) (hd:ds.length < 600000) (sl:s.length < 700000)
  (kk:∀ rows' L' ds' ts',ElRow rows rows' p r { h with ns:=(decl s h).2 } 20 -> BS L' a b ds' ts' (ss ++ [s] ++ [puts s (decl s h).2]) -> ds'.length = ds.length + 1 -> K (iv rows.length) (QS σ k kb rows' L')) :
  R1 wf (n + 10) 322 [.ref k,iv p,.str (T h.nm),.tup (pairV (told h (decl s h).2)),.ref kb] [] (QS σ k kb rows L) K X':=by
 have D:=o.decl ol s
 have hp:=lt_of_get hi
 have nd:((decl s h).2.map (·.1)).Nodup:=D.con.nd
 have pl:=D.len
 have ats:∀ x ∈ h.ats,AtS (puts s (decl s h).2) x:=fun x hx => ⟨(o.ats x hx).1,(o.ats x hx).2.1,fun z => by rw [<- D.put]; exact D.got _ (wants_at hx z)⟩
 have gn:(get (puts s (decl s h).2) (pfx h.nm)).getD [] = h.uri:=by rw [<- D.put]; exact D.got (pfx h.nm,h.uri) (.head _)
 have menu:=D.menu
 have rb:rows.length < big:=head_lt hb
 have rbig:=Nat.le_of_lt rb
 have a100:h.ats.length < 100:=Nat.lt_of_le_of_lt ol (by decide)
 generalize (decl s h).2 = ps at *
 refine r1_of rfl rfl fun P hR _ => elo_ok (a:=false) rfl (br_f rfl (elo_ok (qsel q B (by kernel_rfl)) (Ca.mk (inner_cps (qb q) norefs1 (enter_ok (n:=n + 1) B hd menu (fun x hx => (o.ats x hx).1) (Nat.lt_of_le_of_lt pl (by decide)) a100 (Nat.lt_trans sl (by decide)) _ _ fun L1 ds1 ts1 B1 l1 => ⟨noref_pairV _,B1.nl,?_⟩)))))
 rw [qsb q]
 have i2:=inner_same (wf:=wf) (n:=n + 9) (f:=286) (args:=[.str (T h.nm)]) (qb (rows:=rows) (L:=L1) q) rfl (resolved_el (wf:=wf) (n:=n + 1) (m:=(h.nm,h.uri)) B1 o.nm gn) rfl B1.nl
 rw [<- o.loc] at i2
 have T1:=qt (L:=L1) q rbig
 have i3:=pelement (wf:=wf) (n:=n + 5) (b:=T h.nm) (c:=T h.uri) (d:=T h.loc) T1 hi hr rb hc
 rw [qsk q] at i3
 have E0:=el_start (r:=r) (nm:=h.nm) (uri:=h.uri) (loc:=h.loc) hp
 refine elo_ok (qsel q B1 (by kernel_rfl)) (ca_ok i2 (elo_ok (psel T1 (by kernel_rfl)) (ca_ok i3 ?_)))
 generalize kid rows p r ⟨"element",T h.nm,T h.uri,T h.loc,T [],some p,[],[],[]⟩ = rows1 at E0
 have go:forP (fun _ => true) (B2 6 7 bodyB1) (pairV (xns ps) ++ attV h.ats) ⟨cx1 wf (n + 9),P⟩ (frB k p h.nm (pairV (told h ps)) kb rows.length none none (some (.tup (attV h.ats))) (some (.str (T h.uri))) (some (.str (T h.loc)))) (QS σ k kb rows1 L1) fun e fr σ => evSs (.cons (.expr (.meth false (.var 4) "check_attributes" [(303,293)] .none (.cons (.var 8) .nil) [] .nil)) (.cons (.for2 6 7 (.var 8) bodyB2) (.cons (.ret (.var 5)) .nil))) e fr σ endN:=by
  refine loopB1 (n:=n + 6) q hp ps rows1 ⟨h.nm,h.uri,h.loc,[],[]⟩ 1 none none menu nd E0 (Nat.lt_of_le_of_lt (Nat.add_le_add_left pl 0) (by decide)) (Nat.lt_of_le_of_lt (Nat.add_le_add_left pl _) (Nat.lt_of_le_of_lt (by rw [Nat.add_assoc]; exact Nat.add_le_add_left (by decide) _) hb)) fun rows2 y6 y7 E1 => loopB1' h.ats y6 y7 (fun x hx => (o.ats x hx).1) fun z6 z7 => ?_
  rw [List.nil_append] at E1
  have B2':BS (L1 ++ [seenC h.ats]) a b ds1 ts1 (ss ++ [s] ++ [puts s ps]):=B1.more seen_all
  have i4:=inner_set (wf:=wf) (n:=n + 9) (f:=293) (args:=[.tup (attV h.ats)]) (qb (rows:=rows2) (L:=L1) q) norefs1 (check_ok (wf:=wf) (n:=n) B1 ats o.nd (Nat.lt_trans a100 (by decide))) rfl B2'.nl
  rw [qsb q] at i4
  refine elo_ok (qsel q B1 (by kernel_rfl)) (ca_ok i4 (elo_ok rfl (loopB2 (n:=n + 1) q hp B2' h.ats rows2 ⟨h.nm,h.uri,h.loc,ps,[]⟩ _ z6 z7 _ _ ats o.nd E1 (Nat.lt_of_le_of_lt (Nat.add_le_add_left ol 0) (by decide)) ?_ fun rows3 w6 w7 w9 w10 E2 => hR _ _ (kk rows3 _ ds1 ts1 ⟨E2.1,Nat.le_trans E2.2 ?_,E2.3,E2.4,E2.5⟩ B2' l1))))
  ·refine Nat.lt_of_le_of_lt ?_ hb
   rw [Nat.add_assoc]
   exact Nat.add_le_add_left (Nat.le_trans (Nat.add_le_add (Nat.add_le_add_left pl 1) ol) (by decide)) _
  ·exact Nat.add_le_add_left (Nat.le_trans (Nat.add_le_add (Nat.add_le_add_left pl 1) ol) (by decide)) _
 have go2:∀ Y,Y = pairV (xns ps) ++ attV h.ats -> forP (fun _ => true) (B2 6 7 bodyB1) Y ⟨cx1 wf (n + 9),P⟩ (frB k p h.nm (pairV (told h ps)) kb rows.length none none (some (.tup (attV h.ats))) (some (.str (T h.uri))) (some (.str (T h.loc)))) (QS σ k kb rows1 L1) _:=fun Y e => by subst e; exact go
 exact elo_ok rfl (go2 _ told_pairV)
theorem end_ok {i lo:Nat} {h:Head} {ch:List Nat} (t:IsT σ k rows) (hi:rows[i]? = some r) (H:HeadR rows lo r h ch) (hp:r.par = some p) (h0:i ≠ 0):Ok (R1 wf (n + 3) 329 [.ref k,iv i,.str (T h.nm),iv 0] [] σ) (iv p) σ:=by
 have pn:=pname (wf:=wf) (n:=n) t hi
 have pp:=ppar (wf:=wf) (n:=n) t hi
 rw [H.name] at pn
 rw [hp] at pp
 exact ok_r1 rfl rfl fun P kk => elo_ok (eqi_f fun z => h0 (Int.ofNat.inj z)) (br_f rfl (elo_ok (psel t (by kernel_rfl)) (ca_ok pn (elo_ok (nes_f rfl) (br_f rfl (br_f rfl (elo_ok (psel t (by kernel_rfl)) (ca_ok pp kk))))))))
end
inductive Cp:Sp -> Fo -> Fo -> Prop
 | nil {s:Sp}:Cp s .nil .nil
 | lf {s:Sp} {i j:Nat} {k:Leaf} {r r':Fo} (h:Cp s r r'):Cp s (.lf i k r) (.lf j k r')
 | el {s:Sp} {i j:Nat} {h:Head} {c r c' r':Fo} (a:Cp (puts s (decl s h).2) c c') (b:Cp s r r'):Cp s (.el i h c r) (.el j { h with ns:=(decl s h).2 } c' r')
noncomputable def bodyZ:CSs:=(.cons (.asg 7 (.sub (.var 6) (.const (.int 0)))) (.cons (.ite (.cmp (.var 7) [.Eq] (.cons (.const (.str "start")) .nil)) (.cons (.asg 5 (.fn 322 (.cons (.var 0) (.cons (.var 5) (.cons (.sub (.var 6) (.const (.int 1))) (.cons (.sub (.var 6) (.const (.int 2))) (.cons (.var 4) .nil))))) [] .nil)) .nil) (.cons (.ite (.cmp (.var 7) [.Eq] (.cons (.const (.str "end")) .nil)) (.cons (.asg 5 (.fn 329 (.cons (.var 0) (.cons (.var 5) (.cons (.sub (.var 6) (.const (.int 1))) (.cons (.var 3) .nil)))) [] .nil)) (.cons (.ite (.cmp (.var 4) [.IsNot] (.cons (.const (.none)) .nil)) (.cons (.expr (.meth false (.var 4) "leave" [(303,257)] .none .nil [] .nil)) .nil) .nil) .nil)) (.cons (.ite (.cmp (.var 7) [.Eq] (.cons (.const (.str "text")) .nil)) (.cons (.expr (.meth false (.var 0) "add_text" [(536,407)] .none (.cons (.var 5) (.cons (.sub (.var 6) (.const (.int 1))) .nil)) [] .nil)) .nil) (.cons (.ite (.cmp (.var 7) [.Eq] (.cons (.const (.str "comment")) .nil)) (.cons (.expr (.meth false (.var 0) "add_comment" [(536,414)] .none (.cons (.var 5) (.cons (.sub (.var 6) (.const (.int 1))) .nil)) [] .nil)) .nil) (.cons (.ite (.cmp (.var 7) [.Eq] (.cons (.const (.str "instruction")) .nil)) (.cons (.expr (.meth false (.var 0) "add_instruction" [(536,421)] .none (.cons (.var 5) (.cons (.sub (.var 6) (.const (.int 1))) (.cons (.sub (.var 6) (.const (.int 2))) .nil))) [] .nil)) .nil) .nil) .nil)) .nil)) .nil)) .nil)) .nil))
noncomputable abbrev frZ (k E kb p:Nat) (x6 x7:Option V):Fr:=[some (.ref k),some (.ref E),some (.bool true),some (iv 0),some (.ref kb),some (iv p),x6,x7]
structure Bld (rows rows':List Row) (p:Nat) (r:Row) (G:Fo) (m:Nat):Prop where
 rep:Rep rows' rows.length G
 par:rows'[p]? = some { r with ch:=r.ch ++ ids G }
 keep:∀ i q,i ≠ p -> rows[i]? = some q -> rows'[i]? = some q
 ge:rows.length <= rows'.length
 le:rows'.length <= rows.length + m
section
variable {wf n k kb E:Nat} {σ:St} {a b p:Nat} {rows rows1 rows2:List Row} {L:St} {ds:List Nat} {ts:List V} {ss:List Sp} {s:Sp} {r:Row} {h:Head} {x6 x7:Option V} {P:PX} {N:KN} {K:V -> St -> Prop} {X:Addr -> St -> Prop}
theorem bld_lf (lf:Leaf) (hp:p < rows.length):Bld rows (kid rows p r (leafRow lf (some p))) p r (.lf rows.length lf .nil) 20 :=
 ⟨⟨⟨Nat.le_refl _,_,put_new hp,leafR lf⟩,trivial⟩,put_at hp,fun i q hi e => put_keep hi e,by rw [kid_len]; exact Nat.le_succ _,by rw [kid_len]; exact Nat.add_le_add_left (by decide) _⟩
theorem bturn_lf {lf:Leaf} (q:QH σ k kb) (hi:rows[p]? = some r) (hr:r.kind = "root" \/ r.kind = "element") (hb:rows.length + 20 < big) (hc:r.ch.length < big) (kk:∀ rows' y6 y7,Bld rows rows' p r (.lf rows.length lf .nil) 20 -> N ⟨cx1 wf (n + 10),P⟩ (frZ k E kb p y6 y7) (QS σ k kb rows' L)) :
  B1 6 bodyZ (lfE lf) ⟨cx1 wf (n + 10),P⟩ (frZ k E kb p x6 x7) (QS σ k kb rows L) N:=by
 have hp:=lt_of_get hi
 have rb:=head_lt hb
 have T1:=qt (L:=L) q (Nat.le_of_lt rb)
 have kk:=fun y6 y7 => kk _ y6 y7 (bld_lf lf hp)
 cases lf with
 | tx v =>
  have ps:=ptext (wf:=wf) (n:=n + 6) (e:=T v) T1 hi hr rb hc
  rw [qsk q] at ps
  exact elo_ok sub_t0 (elo_ok (eqs_f (sne (by kernel_rfl))) (br_f rfl (elo_ok (eqs_f (sne (by kernel_rfl))) (br_f rfl (elo_ok (eqs_t rfl) (br_t rfl (elo_ok (psel T1 (by kernel_rfl)) (elo_ok sub_t1 (ca_ok ps (kk _ _))))))))))
 | cm v =>
  have ps:=pcomment (wf:=wf) (n:=n + 6) (e:=T v) T1 hi hr rb hc
  rw [qsk q] at ps
  exact elo_ok sub_t0 (elo_ok (eqs_f (sne (by kernel_rfl))) (br_f rfl (elo_ok (eqs_f (sne (by kernel_rfl))) (br_f rfl (elo_ok (eqs_f (sne (by kernel_rfl))) (br_f rfl (elo_ok (eqs_t rfl) (br_t rfl (elo_ok (psel T1 (by kernel_rfl)) (elo_ok sub_t1 (ca_ok ps (kk _ _))))))))))))
 | pi t d =>
  have ps:=pinstr (wf:=wf) (n:=n + 6) (x:=T t) (e:=T d) T1 hi hr rb hc
  rw [qsk q] at ps
  exact elo_ok (a:=V.str "instruction") rfl (elo_ok (eqs_f (sne (by kernel_rfl))) (br_f rfl (elo_ok (eqs_f (sne (by kernel_rfl))) (br_f rfl (elo_ok (eqs_f (sne (by kernel_rfl))) (br_f rfl (elo_ok (eqs_f (sne (by kernel_rfl))) (br_f rfl (elo_ok (eqs_t rfl) (br_t rfl (elo_ok (psel T1 (by kernel_rfl)) (elo_ok (a:=V.str (T t)) rfl (elo_ok (a:=V.str (T d)) rfl (ca_ok ps (kk _ _)))))))))))))))
theorem bturn_st (q:QH σ k kb) (B:BS L a b ds ts (ss ++ [s])) (hi:rows[p]? = some r) (hr:r.kind = "root" \/ r.kind = "element") (o:OkH h) (ol:h.ats.length <= 2) (hb:rows.length + 20 < big) (hc:r.ch.length < big) (hd:ds.length < 600000) (sl:s.length < 700000)
  (kk:∀ rows' L' ds' ts' y6 y7,ElRow rows rows' p r { h with ns:=(decl s h).2 } 20 -> BS L' a b ds' ts' (ss ++ [s] ++ [puts s (decl s h).2]) -> N ⟨cx1 wf (n + 10),P⟩ (frZ k E kb rows.length y6 y7) (QS σ k kb rows' L')) :
  B1 6 bodyZ (startE h (decl s h).2) ⟨cx1 wf (n + 10),P⟩ (frZ k E kb p x6 x7) (QS σ k kb rows L) N :=
 elo_ok (a:=V.str "start") rfl (elo_ok (eqs_t rfl) (br_t rfl (elo_ok (a:=V.str (T h.nm)) rfl (elo_ok (a:=V.tup (pairV (told h (decl s h).2))) rfl (Ca.mk (start_okk q B hi hr o ol hb hc hd sl fun rows' L' ds' ts' E1 B1 _ => kk rows' L' ds' ts' _ _ E1 B1))))))
theorem bturn_en {i lo:Nat} {h':Head} {ch:List Nat} (q:QH σ k kb) (B:BS L a b ds ts (ss ++ [s])) (h0:ss ≠ []) (hi:rows[i]? = some r) (H:HeadR rows lo r h' ch) (hn:h'.nm = h.nm) (hp:r.par = some p) (i0:i ≠ 0) (hb:rows.length <= big)
  (kk:∀ L' ds' ts' y6 y7,BS L' a b ds' ts' ss -> N ⟨cx1 wf (n + 10),P⟩ (frZ k E kb p y6 y7) (QS σ k kb rows L')) :
  B1 6 bodyZ (endE h) ⟨cx1 wf (n + 10),P⟩ (frZ k E kb i x6 x7) (QS σ k kb rows L) N:=by
 have e1:=end_ok (wf:=wf) (n:=n + 7) (qt (L:=L) q hb) hi H hp i0
 rw [hn] at e1
 obtain ⟨L',ds',ts',e2,B2⟩:=leave_ok (wf:=wf) (n:=n + 9) B h0
 have i2:=inner_set (wf:=wf) (n:=n + 10) (f:=257) (args:=[]) (qb (rows:=rows) (L:=L) q) rfl e2 rfl B2.nl
 rw [qsb q] at i2
 exact elo_ok sub_t0 (elo_ok (eqs_f (sne (by kernel_rfl))) (br_f rfl (elo_ok (eqs_t rfl) (br_t rfl (elo_ok sub_t1 (ca_ok e1 (elo_ok (a:=true) rfl (br_t rfl (elo_ok (qsel q B (by kernel_rfl)) (ca_ok i2 (kk L' ds' ts' _ _ B2)))))))))))
theorem bld_go (q:QH σ k kb) {kp:St -> Bool} (hk:∀ rows L,kp (QS σ k kb rows L) = true) (F:Fo):∀ (s:Sp) (c:Bool) (rest:List V) (rows:List Row) (L:St) (ds:List Nat) (ts:List V) (ss:List Sp) (p:Nat) (r:Row) (x6 x7:Option V),OkF c F -> BS L a b ds ts (ss ++ [s]) -> rows[p]? = some r -> (r.kind = "root" \/ r.kind = "element") -> rows.length + 20 * cnt F < 700000 -> r.ch.length + cnt F < 700000 -> ds.length + cnt F < 500000 -> s.length + 8 * cnt F < 600000 ->
  (∀ G rows' L' ds' ts' y6 y7,Bld rows rows' p r G (20 * cnt F) -> Cp s F G -> BS L' a b ds' ts' (ss ++ [s]) -> forP kp (B1 6 bodyZ) rest ⟨cx1 wf (n + 10),P⟩ (frZ k E kb p y6 y7) (QS σ k kb rows' L') N) ->
  forP kp (B1 6 bodyZ) (evts s F ++ rest) ⟨cx1 wf (n + 10),P⟩ (frZ k E kb p x6 x7) (QS σ k kb rows L) N:=by
 have b9:∀ {x:Nat},x < 900000 -> x < big:=big9
 induction F with
 | nil => exact fun s c rest rows L ds ts ss p r x6 x7 _ B hi hr _ _ _ _ kk => kk .nil rows L ds ts x6 x7 ⟨trivial,by rw [ids,List.append_nil]; exact hi,fun i q _ e => e,Nat.le_refl _,Nat.le_add_right _ _⟩ .nil B
 | lf i lf f ih =>
  intro s c rest rows L ds ts ss p r x6 x7 o B hi hr n1 n2 n3 n4 kk
  rw [cnt] at n1 n2 n3 n4 kk
  refine ⟨hk _ _,bturn_lf q hi hr (b9 (by lia)) (b9 (by lia)) fun rows1 y6 y7 B1 => ih s lf.isTx rest rows1 L ds ts ss p _ y6 y7 o.2.2 B B1.par hr ?_ ?_ (by lia) (by lia) fun G rows2 L2 ds2 ts2 z6 z7 B2 C2 S2 => kk (.lf rows.length lf G) rows2 L2 ds2 ts2 z6 z7 ⟨?_,?_,fun j w hj e => B2.keep j w hj (B1.keep j w hj e),Nat.le_trans B1.ge B2.ge,?_⟩ (.lf C2) S2⟩
  ·have:=B1.le; lia
  ·rw [List.length_append]; show _ + 1 + _ < _; lia
  ·obtain ⟨⟨l,w,ew,hw⟩,_⟩:=B1.rep
   exact ⟨⟨l,w,B2.keep _ w (Nat.ne_of_gt (lt_of_get hi)) ew,hw⟩,B2.rep.weak B1.ge⟩
  ·rw [B2.par,List.append_assoc]; rfl
  ·have:=B1.le; have:=B2.le; lia
 | el i h f g ihf ihg =>
  intro s c rest rows L ds ts ss p r x6 x7 o B hi hr n1 n2 n3 n4 kk
  obtain ⟨⟨o1,ol⟩,o2,o3⟩:=o
  rw [cnt] at n1 n2 n3 n4 kk
  have hp:=lt_of_get hi
  have pl:=(o1.decl ol s).len
  have sp:=puts_len (l:=(decl s h).2) (s:=s)
  have d0:ds.length = ss.length + 1:=B.hd.len.trans List.length_append
  rw [show evts s (.el i h f g) ++ rest = startE h (decl s h).2 :: (evts (puts s (decl s h).2) f ++ (endE h :: (evts s g ++ rest))) by rw [evts,List.append_assoc]; rfl]
  refine ⟨hk _ _,bturn_st q B hi hr o1 ol (b9 (by lia)) (b9 (by lia)) (by lia) (by lia) fun rows1 L1 ds1 ts1 y6 y7 E1 B1 => ?_⟩
  have d1:ds1.length = ds.length + 1:=by rw [d0]; exact B1.hd.len.trans (by rw [List.length_append,List.length_append]; rfl)
  obtain ⟨e,he,H,hpar⟩:=E1.el
  have le1:=E1.le
  have lt1:=E1.lt
  refine ihf (puts s (decl s h).2) false _ rows1 L1 ds1 ts1 (ss ++ [s]) rows.length e y6 y7 o2 B1 he (.inr H.1) (by lia) (by rw [H.6]; show 0 + _ < _; lia) (by lia) (by lia) fun Gc rows2 L2 ds2 ts2 z6 z7 B2 C2 S2 => ?_
  have le2:=B2.le
  have ge2:=B2.ge
  have kl2:KeepL rows.length rows1 rows2:=fun j w _ z => by
   by_cases cj:j = rows.length
   ·subst cj; rw [he] at z; cases z; exact ⟨_,B2.par,rfl,rfl,rfl,rfl,rfl⟩
   ·exact ⟨w,B2.keep j w cj z,rfl,rfl,rfl,rfl,rfl⟩
  have H2:HeadR rows2 rows.length { e with ch:=e.ch ++ ids Gc } { h with ns:=(decl s h).2 } (ids Gc):=⟨H.1,H.2,H.3,H.4,H.5,by rw [H.6]; rfl,NsRy.monoL kl2 H.7,AtRy.monoL kl2 H.8⟩
  refine ⟨hk _ _,bturn_en (h:=h) q S2 (List.append_ne_nil_of_right_ne_nil _ (List.cons_ne_nil _ _)) B2.par H2 rfl hpar (Nat.ne_of_gt (Nat.zero_lt_of_lt hp)) (Nat.le_of_lt (b9 (by lia))) fun L3 ds3 ts3 u6 u7 B3 => ?_⟩
  have d3:ds3.length = ds.length:=by rw [d0]; exact B3.hd.len.trans List.length_append
  refine ihg s false rest rows2 L3 ds3 ts3 ss p _ u6 u7 o3 B3 (B2.keep p _ (Nat.ne_of_lt hp) E1.par) hr (by lia) (by rw [List.length_append]; show _ + 1 + _ < _; lia) (by lia) (by lia) fun Gr rows4 L4 ds4 ts4 v6 v7 B4 C4 S4 => kk (.el rows.length { h with ns:=(decl s h).2 } Gc Gr) rows4 L4 ds4 ts4 v6 v7 ⟨?_,?_,?_,by have:=B4.ge; lia,by have:=B4.le; lia⟩ (.el C2 C4) S4
  ·have kp4:Keep rows.length rows2 rows4:=fun j w l e => B4.keep j w (Nat.ne_of_gt (Nat.lt_of_lt_of_le hp l)) e
   exact ⟨⟨Nat.le_refl _,_,kp4 _ _ (Nat.le_refl _) B2.par,H2.monoL kp4.l⟩,(B2.rep.weak (Nat.le_of_lt lt1)).mono kp4,B4.rep.weak (Nat.le_trans (Nat.le_of_lt lt1) ge2)⟩
  ·rw [B4.par,List.append_assoc]; rfl
  ·exact fun j w hj e => B4.keep j w hj (B2.keep j w (Nat.ne_of_lt (lt_of_get e)) (E1.keep j w hj e))
theorem drop_cut {v:V} {σ':St} (h:σ.length <= σ'.length):σ.length <= (dropF true σ v σ').length /\ ∀ i:Nat,i < σ.length -> (dropF true σ v σ')[i]? = σ'[i]?:=by
 unfold dropF
 dsimp only
 split
 ·exact ⟨by rw [List.length_take]; exact Nat.le_min.mpr ⟨Nat.le_refl _,h⟩,fun i hi => List.getElem?_take_of_lt hi⟩
 ·exact ⟨h,fun _ _ => rfl⟩
theorem build_ok {F:Fo} (t:IsT σ k []) (hE:σ[E]? = some (.list (evts xmlS F))) (o:OkF false F) (hc:cnt F <= 400)
  (kk:∀ G rows σ' R,IsT σ' k rows -> (∀ i:Nat,i < σ.length -> i ≠ k -> σ'[i]? = σ[i]?) -> σ.length <= σ'.length -> rows[0]? = some R -> RootR R G -> Rep rows 1 G -> Cp xmlS F G -> K (iv 0) σ'):R1 wf (n + 11) 315 [.ref k,.ref E] [] σ K X:=by
 have lk:=lt_of_get t.1
 have lE:=lt_of_get hE
 have nE:E ≠ k:=fun z => by rw [z,t.1] at hE; cases hE
 have pr:=proot (wf:=wf) (n:=n + 7) t (big9 (by decide))
 obtain ⟨L,mk,a,b,ds,ts,B,ld⟩:=bs_made (wf:=wf) (n:=n + 9) (σ:=σ.set k (.pack (tree [⟨"root",T [],T [],T [],T [],none,[],[],[]⟩])))
 rw [List.length_set] at mk
 have hl:(σ.set k (Cell.pack (tree [⟨"root",T [],T [],T [],T [],none,[],[],[]⟩])) ++ [Cell.pack L]).length = σ.length + 1:=by rw [List.length_append,List.length_set]; rfl
 have h1:(σ.set k (Cell.pack (tree [⟨"root",T [],T [],T [],T [],none,[],[],[]⟩])) ++ [Cell.pack L])[k]? = some (.pack (tree [⟨"root",T [],T [],T [],T [],none,[],[],[]⟩])):=get_app (List.getElem?_set_self lk)
 have h2:(σ.set k (Cell.pack (tree [⟨"root",T [],T [],T [],T [],none,[],[],[]⟩])) ++ [Cell.pack L])[σ.length]? = some (.pack L):=by
  have:=app_get (σ:=σ.set k (Cell.pack (tree [⟨"root",T [],T [],T [],T [],none,[],[],[]⟩]))) (c:=.pack L) (ext:=[])
  rwa [List.length_set] at this
 have h3:∀ i:Nat,i < σ.length -> i ≠ k -> (σ.set k (Cell.pack (tree [⟨"root",T [],T [],T [],T [],none,[],[],[]⟩])) ++ [Cell.pack L])[i]? = σ[i]?:=fun i hi hik => (List.getElem?_append_left (by rw [List.length_set]; exact hi)).trans (List.getElem?_set_ne (Ne.symm hik))
 refine r1_of rfl rfl fun P hR _ => elo_ok (psel t (by kernel_rfl)) (ca_ok pr (br_t rfl (ca_ok mk ?_)))
 have go:∀ σ2:St,σ2.length = σ.length + 1 -> σ2[k]? = some (.pack (tree [⟨"root",T [],T [],T [],T [],none,[],[],[]⟩])) -> σ2[σ.length]? = some (.pack L) -> (∀ i:Nat,i < σ.length -> i ≠ k -> σ2[i]? = σ[i]?) -> evSs (.cons (.for1 6 (.var 1) bodyZ) (.cons (.ite (.cmp (.var 5) [.NotEq] (.cons (.var 3) .nil)) (.cons (.raise 63 (.const (.str "an element without an end"))) .nil) .nil) (.cons (.ret (.var 3)) .nil))) ⟨cx1 wf (n + 10),P⟩ (frZ k E σ.length 0 none none) σ2 endN:=by
  intro σ2 hl h1 h2 h3
  have q:QH σ2 k σ.length:=⟨lt_of_get h1,lt_of_get h2,Nat.ne_of_lt lk⟩
  have e0:QS σ2 k σ.length [⟨"root",T [],T [],T [],T [],none,[],[],[]⟩] L = σ2:=by rw [QS,set_same h1,set_same h2]
  have hE2:=(h3 E lE nE).trans hE
  have qi:∀ rows L' i,i < σ.length -> i ≠ k -> (QS σ2 k σ.length rows L')[i]? = σ[i]?:=fun rows L' i hi hik => (List.getElem?_set_ne (Nat.ne_of_gt hi)).trans ((List.getElem?_set_ne (Ne.symm hik)).trans (h3 i hi hik))
  have hk:∀ rows L',keepB (.ref E) (evts xmlS F) (QS σ2 k σ.length rows L') = true:=fun rows L' => keep_ref ((qi rows L' E lE nE).trans hE)
  refine elo_ok (items_ref hE2) ?_
  have main:=bld_go (wf:=wf) (n:=n) (P:=P) (N:=fun e fr σ => evSs (.cons (.ite (.cmp (.var 5) [.NotEq] (.cons (.var 3) .nil)) (.cons (.raise 63 (.const (.str "an element without an end"))) .nil) .nil) (.cons (.ret (.var 3)) .nil)) e fr σ endN) (E:=E) q hk F xmlS false [] [⟨"root",T [],T [],T [],T [],none,[],[],[]⟩] L ds ts [] 0 _ none none o B rfl (.inl rfl)
   (Nat.lt_of_le_of_lt (Nat.add_le_add_left (Nat.mul_le_mul_left 20 hc) 1) (by decide)) (Nat.lt_of_le_of_lt (Nat.add_le_add_left hc 0) (by decide)) (by rw [ld]; exact Nat.lt_of_le_of_lt (Nat.add_le_add_left hc 1) (by decide)) (Nat.lt_of_le_of_lt (Nat.add_le_add_left (Nat.mul_le_mul_left 8 hc) 1) (by decide))
   fun G rows L2 ds2 ts2 y6 y7 B1 C1 S1 => ⟨hk _ _,elo_ok (a:=false) rfl (br_f rfl (hR _ _ ?_))⟩
  ·rw [List.append_nil,e0] at main; exact main
  ·have lQ:σ.length <= (QS σ2 k σ.length rows L2).length:=by rw [QS,List.length_set,List.length_set,hl]; exact Nat.le_succ _
   obtain ⟨l3,g3⟩:=drop_cut (v:=iv 0) lQ
   have q2:IsT (QS σ2 k σ.length rows L2) k rows:=qt q (Nat.le_trans B1.le (Nat.le_trans (Nat.add_le_add_left (Nat.mul_le_mul_left 20 hc) 1) (by decide)))
   exact kk G rows _ _ ⟨(g3 k lk).trans q2.1,q2.2⟩ (fun i hi hik => (g3 i hi).trans (qi rows L2 i hi hik)) l3 B1.par ⟨rfl,rfl,rfl,rfl,rfl,rfl,rfl,rfl⟩ B1.rep C1
 exact go _ hl h1 h2 h3
end
mutual
theorem eqV_refl:∀ (v:V) (n:Nat),V.lvl v n = true -> eqV v v = some true
 | .none,_,_ => rfl
 | .bool b,_,_ => congrArg some (beq_self_eq_true b)
 | .int _,_,_ => congrArg some (decide_eq_true rfl)
 | .str _,_,_ => congrArg some (decide_eq_true rfl)
 | .tup l,n,h => by
  cases n with
  | zero => cases h
  | succ n => exact eqVs_refl l n h
 | .lst l,n,h => by
  cases n with
  | zero => cases h
  | succ n =>
   show (if l.length = l.length then eqVs l l else some false) = _
   rw [if_pos rfl]; exact eqVs_refl l n h
 | .ref _,_,h => by cases h
 | .rng _ _ _,_,h => by cases h
theorem eqVs_refl:∀ (l:List V) (n:Nat),V.lvls l n = true -> eqVs l l = some true
 | [],_,_ => rfl
 | v :: r,n,h => by
  have h:=Bool.and_eq_true_iff.mp h
  show (eqV v v).bind _ = _
  rw [eqV_refl v n h.1]; exact eqVs_refl r n h.2
end
noncomputable def at4 (a:Att):V:=.tup [.str (T a.nm),.str (T a.uri),.str (T a.loc),.str (T a.val)]
noncomputable def rowV (r:Row) (A:List Att):V:=.tup [.str r.kind,.str r.name,.str r.uri,.str r.loc,.str r.val,.lst (A.map at4)]
theorem at4_lvl:∀ A:List Att,V.lvls (A.map at4) 6 = true
 | [] => rfl
 | a :: A => at4_lvl A
theorem pairV_lvl:∀ l:List Pr,V.lvls (pairV l) 7 = true
 | [] => rfl
 | a :: A => pairV_lvl A
section
variable {wf n k k2 i j:Nat} {σ:St} {rows rows2:List Row} {r q:Row} {lo lo2:Nat} {P:PX} {N:KN} {K:List V -> EE -> Fr -> St -> Prop} {fr:Fr}
theorem row_eq {A:List Att}:cmpQ σ .NotEq (rowV r A) (rowV r A) = some false:=by
 have l:V.lvl (rowV r A) 8 = true:=by
  show (V.lvls (A.map at4) 6 && true) = true
  rw [at4_lvl]; rfl
 show (bif V.lvl (rowV r A) 8 && V.lvl (rowV r A) 8 then eqV (rowV r A) (rowV r A) else none).map not = _
 rw [l,eqV_refl _ 8 l]; rfl
theorem ns_eq {l:List Pr}:cmpQ σ .NotEq (.lst (pairV l)) (.lst (pairV l)) = some false:=by
 show (if (pairV l).length ≠ (pairV l).length then some false else bif V.lvls (pairV l) 7 && V.lvls (pairV l) 7 then eqVs (pairV l) (pairV l) else none).map not = _
 rw [if_neg (fun h => h rfl),pairV_lvl,eqVs_refl _ 7 (pairV_lvl l)]; rfl
noncomputable def eltT:CE:=(.tup (.cons (.meth false (.var 1) "name" [(536,463)] .none (.cons (.var 0) .nil) [] .nil) (.cons (.meth false (.var 1) "uri" [(536,470)] .none (.cons (.var 0) .nil) [] .nil) (.cons (.meth false (.var 1) "local" [(536,477)] .none (.cons (.var 0) .nil) [] .nil) (.cons (.meth false (.var 1) "value" [(536,484)] .none (.cons (.var 0) .nil) [] .nil) .nil)))))
theorem at_go (t:IsT σ k rows) {js:List Nat} {as:List Att} (x:AtRy rows lo js as):∀ (acc:List V),acc.length + as.length < 1000 -> K (acc ++ as.map at4) ⟨cx1 wf (n + 2),P⟩ fr σ ->
  compP (fun _ => true) (fun x σ R => ev eltT (EE.to ⟨cx1 wf (n + 2),P⟩ fun y σ => R (some y) σ) [some x,some (.ref k)] σ retN) (ivs js) acc ⟨cx1 wf (n + 2),P⟩ fr σ K:=by
 induction x with
 | nil => exact fun acc _ kk => ⟨rfl,by rwa [List.map_nil,List.append_nil] at kk⟩
 | @cons j a js as h r ih =>
  intro acc hl kk
  obtain ⟨_,w,e,_,h1,h2,h3,h4⟩:=h
  have p1:=pname (wf:=wf) (n:=n) t e
  have p2:=puri (wf:=wf) (n:=n) t e
  have p3:=ploc (wf:=wf) (n:=n) t e
  have p4:=pval (wf:=wf) (n:=n) t e
  rw [h1] at p1; rw [h2] at p2; rw [h3] at p3; rw [h4] at p4
  rw [List.map_cons,List.append_cons] at kk
  have:=ih (acc ++ [at4 a]) (snoc_le hl) kk
  exact ⟨⟨rfl,Nat.le_of_lt (big_of (head_lt hl))⟩,elo_ok (psel t (by kernel_rfl)) (ca_ok p1 (elo_ok (psel t (by kernel_rfl)) (ca_ok p2 (elo_ok (psel t (by kernel_rfl)) (ca_ok p3 (elo_ok (psel t (by kernel_rfl)) (ca_ok p4 this)))))))⟩
theorem row_ok {A:List Att} (t:IsT σ k rows) (hi:rows[i]? = some r) (hA:AtRy rows lo r.ats A) (la:A.length < 900):Ok (R1 wf (n + 3) 620 [.ref k,iv i] [] σ) (rowV r A) σ:=by
 have la':A.length < 1000:=Nat.lt_trans la (by decide)
 have pa:=pats (wf:=wf) (n:=n) t hi (by rw [hA.len]; exact Nat.le_of_lt (big_of la'))
 refine ok_r1 rfl rfl fun P kk => elo_ok (psel t (by kernel_rfl)) (ca_ok pa (elo_ok rfl (at_go t hA [] (by rw [List.length_nil,Nat.zero_add]; exact la') ?_)))
 rw [List.nil_append]
 exact el_ok (okL_small (by rw [List.length_map]; exact la')) (elo_ok (psel t (by kernel_rfl)) (ca_ok (pkind t hi) (elo_ok (psel t (by kernel_rfl)) (ca_ok (pname t hi) (elo_ok (psel t (by kernel_rfl)) (ca_ok (puri t hi) (elo_ok (psel t (by kernel_rfl)) (ca_ok (ploc t hi) (elo_ok (psel t (by kernel_rfl)) (ca_ok (pval t hi) kk))))))))))
noncomputable def bodyAl:CSs:=(.cons (.asg2 5 6 (.meth false (.var 4) "pop" [] (some .pop) .nil [] .nil)) (.cons (.asg2 7 8 (.tup (.cons (.meth false (.var 0) "children" [(536,498)] .none (.cons (.var 5) .nil) [] .nil) (.cons (.meth false (.var 2) "children" [(536,498)] .none (.cons (.var 6) .nil) [] .nil) .nil)))) (.cons (.asg 9 (.comp false (.meth false (.var 0) "namespaces" [(536,512)] .none (.cons (.var 5) .nil) [] .nil) [0] (.tup (.cons (.meth false (.var 1) "name" [(536,463)] .none (.cons (.var 0) .nil) [] .nil) (.cons (.meth false (.var 1) "value" [(536,484)] .none (.cons (.var 0) .nil) [] .nil) .nil))))) (.cons (.ite (.or (.cmp (.fn 620 (.cons (.var 0) (.cons (.var 5) .nil)) [] .nil) [.NotEq] (.cons (.fn 620 (.cons (.var 2) (.cons (.var 6) .nil)) [] .nil) .nil)) (.or (.cmp (.bf false .len (.cons (.var 7) .nil)) [.NotEq] (.cons (.bf false .len (.cons (.var 8) .nil)) .nil)) (.const (.bool false)))) (.cons (.ret (.const (.bool false))) .nil) .nil) (.cons (.ite (.cmp (.var 9) [.NotEq] (.cons (.slice false (.comp false (.meth false (.var 2) "namespaces" [(536,512)] .none (.cons (.var 6) .nil) [] .nil) [2] (.tup (.cons (.meth false (.var 1) "name" [(536,463)] .none (.cons (.var 0) .nil) [] .nil) (.cons (.meth false (.var 1) "value" [(536,484)] .none (.cons (.var 0) .nil) [] .nil) .nil)))) (.const (.none)) (.bf false .len (.cons (.var 9) .nil)) (.const (.none))) .nil)) (.cons (.ret (.const (.bool false))) .nil) .nil) (.cons (.asg 4 (.bin true .Add (.var 4) (.comp false (.bf false .range (.cons (.bf false .len (.cons (.var 7) .nil)) .nil)) [7,8] (.tup (.cons (.sub (.var 1) (.var 0)) (.cons (.sub (.var 2) (.var 0)) .nil)))))) .nil))))))
noncomputable abbrev frAl (k k2 a1 a3 L:Nat) (x5 x6 x7 x8 x9:Option V):Fr:=[some (.ref k),some (iv a1),some (.ref k2),some (iv a3),some (.ref L),x5,x6,x7,x8,x9]
structure Eqv (rows rows2:List Row) (i j:Nat) (ci cj:List Nat) (r q:Row) (A:List Att) (Ns M:List Pr) (lo lo2:Nat):Prop where
 hi:rows[i]? = some r
 hj:rows2[j]? = some q
 d:∀ B,rowV q B = rowV r B
 ci:r.ch = ci
 cj:q.ch = cj
 a1:AtRy rows lo r.ats A
 a2:AtRy rows2 lo2 q.ats A
 n1:NsRy rows lo r.nss Ns
 n2:NsRy rows2 lo2 q.nss (Ns ++ M)
 la:A.length < 900
 ln:(Ns ++ M).length < 900
noncomputable def prs (l m:List Nat):List V:=(l.zip m).map fun p => .tup [iv p.1,iv p.2]
theorem prs_len {l m:List Nat} (h:l.length = m.length):(prs l m).length = l.length:=by rw [prs,List.length_map,List.length_zip,<- h,Nat.min_self]
noncomputable def eltZ:CE:=(.tup (.cons (.sub (.var 1) (.var 0)) (.cons (.sub (.var 2) (.var 0)) .nil)))
theorem ivs_at {A l:List Nat} {x:Nat} (h:(A ++ x :: l).length <= big):subF σ (.lst (ivs (A ++ x :: l))) (iv A.length) = some (iv x):=sub_lst (by rw [ivs,List.getElem?_map,List.getElem?_append_right (Nat.le_refl _),Nat.sub_self]; rfl) (by rw [ivs_len]; exact h)
theorem zip_go {ci cj:List Nat} (hci:ci.length < 800000) (l:List Nat):∀ (m A B:List Nat) (acc:List V),ci = A ++ l -> cj = B ++ m -> A.length = B.length -> l.length = m.length -> acc.length + l.length < 800000 -> K (acc ++ prs l m) ⟨cx1 wf n,P⟩ fr σ ->
  compP (fun _ => true) (fun x σ R => ev eltZ (EE.to ⟨cx1 wf n,P⟩ fun y σ => R (some y) σ) [some x,some (.lst (ivs ci)),some (.lst (ivs cj))] σ retN) (ivs (List.range' A.length l.length)) acc ⟨cx1 wf n,P⟩ fr σ K:=by
 have lb:∀ {c:List Nat},c.length = ci.length -> c.length <= big:=fun h => by rw [h]; exact Nat.le_of_lt (big9 (Nat.lt_trans hci (by decide)))
 induction l with
 | nil =>
  intro m A B acc _ _ _ hl _ kk
  have:prs [] m = []:=rfl
  rw [this,List.append_nil] at kk
  exact ⟨rfl,kk⟩
 | cons x l ih =>
  intro m A B acc e1 e2 hAB hl ha kk
  cases m with
  | nil => cases hl
  | cons y m =>
   have lm:cj.length = ci.length:=by rw [e1,e2,List.length_append,List.length_append,hAB]; exact congrArg (B.length + ·) hl.symm
   have s1:=ivs_at (σ:=σ) (A:=A) (l:=l) (x:=x) (by rw [<- e1]; exact lb rfl)
   have s2:=ivs_at (σ:=σ) (A:=B) (l:=m) (x:=y) (by rw [<- e2]; exact lb lm)
   rw [<- e1] at s1
   rw [<- e2,<- hAB] at s2
   rw [show prs (x :: l) (y :: m) = .tup [iv x,iv y] :: prs l m from rfl,List.append_cons] at kk
   have:=ih m (A ++ [x]) (B ++ [y]) (acc ++ [.tup [iv x,iv y]]) (by rw [<- List.append_cons]; exact e1) (by rw [<- List.append_cons]; exact e2) (by rw [List.length_append,List.length_append,hAB]; rfl) (Nat.succ.inj hl) (snoc_le ha) kk
   rw [List.length_append] at this
   exact ⟨⟨rfl,Nat.le_of_lt (big9 (Nat.lt_trans (head_lt ha) (by decide)))⟩,elo_ok s1 (elo_ok s2 this)⟩
theorem turnAl {a1 a3 L M0:Nat} {base:List V} {ci cj:List Nat} {x5 x6 x7 x8 x9:Option V} {A:List Att} {Ns M:List Pr} (t:IsT σ k rows) (t2:IsT σ k2 rows2) (hL:σ[L]? = some (.list (base ++ [.tup [iv i,iv j]]))) (E:Eqv rows rows2 i j ci cj r q A Ns M lo lo2) (hc:ci.length = cj.length) (lc:ci.length < 300000) (lb:base.length < 300000) (hN:M0 <= L) (hk:k < M0) (hk2:k2 < M0)
  (kk:∀ y5 y6 y7 y8 y9 L' σ',σ'[L']? = some (.list (base ++ prs ci cj)) -> Grow M0 σ σ' -> M0 <= L' -> N ⟨cx1 wf (n + 3),P⟩ (frAl k k2 a1 a3 L' y5 y6 y7 y8 y9) σ') :
  evSs bodyAl ⟨cx1 wf (n + 3),P⟩ (frAl k k2 a1 a3 L x5 x6 x7 x8 x9) σ N:=by
 have c9:ci.length < 900000:=Nat.lt_trans lc (by decide)
 have cb:ci.length <= big:=Nat.le_of_lt (big9 c9)
 have g1:Grow M0 σ (σ.set L (.list base)):=Grow.set hN hL
 have lL:=lt_of_get hL
 refine elo_ok (selF_pop hL) (el_ok (pop_ref hL (big9 (Nat.lt_trans lb (by decide)))) ?_)
 have hL1:(σ.set L (.list base))[L]? = some (.list base):=List.getElem?_set_self lL
 have t1:=g1.tree hk t
 have t21:=g1.tree hk2 t2
 generalize σ.set L (.list base) = σ1 at g1 hL1 t1 t21
 have c1:=pch (wf:=wf) (n:=n + 1) t1 E.hi (by rw [E.ci]; exact cb)
 have c2:=pch (wf:=wf) (n:=n + 1) t21 E.hj (by rw [E.cj,<- hc]; exact cb)
 rw [E.ci] at c1
 rw [E.cj] at c2
 have ln:=E.ln
 have ln1:Ns.length < 900:=by rw [List.length_append] at ln; exact head_lt ln
 have b9:∀ {x:Nat},x < 900 -> x <= big:=fun h => Nat.le_of_lt (big_of (Nat.lt_trans h (by decide)))
 have n1:=pnss (wf:=wf) (n:=n + 1) t1 E.hi (by rw [E.n1.len]; exact b9 ln1)
 have n2:=pnss (wf:=wf) (n:=n + 1) t21 E.hj (by rw [E.n2.len]; exact b9 ln)
 have r2:=row_ok (wf:=wf) (n:=n) t21 E.hj E.a2 E.la
 rw [E.d] at r2
 have k9:∀ {x:Nat},x < 900 -> x < 1000:=fun h => Nat.lt_trans h (by decide)
 have l1:bfF false .len [.lst (ivs ci)] σ1 = .ok (iv ci.length) σ1:=by rw [len_lst (by rw [ivs_len]; exact cb),ivs_len]
 have l2:bfF false .len [.lst (ivs cj)] σ1 = .ok (iv ci.length) σ1:=by rw [len_lst (by rw [ivs_len,<- hc]; exact cb),ivs_len,hc]
 have l3:bfF false .len [.lst (pairV Ns)] σ1 = .ok (iv Ns.length) σ1:=by rw [len_lst (by rw [pairV_len]; exact b9 ln1),pairV_len]
 have sk:=slice_take (σ:=σ1) (l:=pairV (Ns ++ M)) (k:=Ns.length) (by rw [pairV_len]; exact Nat.lt_trans ln (by decide)) (by rw [pairV_len,List.length_append]; exact Nat.le_add_right _ _)
 rw [show (pairV (Ns ++ M)).take Ns.length = pairV Ns by rw [pairV,List.map_append,List.take_left' (List.length_map _)]; rfl] at sk
 have nl:cmpQ σ1 .NotEq (iv ci.length) (iv ci.length) = some false:=congrArg (fun b => some (!b)) (decide_eq_true rfl)
 refine elo_ok (psel t1 (by kernel_rfl)) (ca_ok c1 (elo_ok (psel t21 (by kernel_rfl)) (ca_ok c2 (elo_ok (psel t1 (by kernel_rfl)) (ca_ok n1 (elo_ok rfl (ns_go (n:=n + 1) t1 E.n1 [] (by rw [List.length_nil,Nat.zero_add]; exact k9 ln1) ?_)))))))
 rw [List.nil_append]
 refine el_ok (okL_small (by rw [pairV_len]; exact k9 ln1)) (ca_ok (row_ok t1 E.hi E.a1 E.la) (ca_ok r2 (elo_ok row_eq (br_f rfl (el_ok l1 (el_ok l2 (elo_ok nl (br_f rfl (br_f rfl (elo_ok (psel t21 (by kernel_rfl)) (ca_ok n2 (elo_ok rfl (ns_go (n:=n + 1) t21 E.n2 [] (by rw [List.length_nil,Nat.zero_add]; exact k9 ln) ?_)))))))))))))
 rw [List.nil_append]
 refine el_ok (okL_small (by rw [pairV_len]; exact k9 ln)) (el_ok l3 (el_ok sk (elo_ok ns_eq (br_f rfl (el_ok l1 (el_ok (range_n cb) (elo_ok (a:=ivs (List.range' ([]:List Nat).length ci.length)) ((items_n cb).trans (congrArg (fun z => some (ivs z)) List.range_eq_range')) (zip_go (ci:=ci) (cj:=cj) (Nat.lt_trans lc (by decide)) ci cj [] [] [] rfl rfl rfl hc (by rw [List.length_nil,Nat.zero_add]; exact Nat.lt_trans lc (by decide)) ?_))))))))
 rw [List.nil_append]
 exact el_ok (okL_ok (by rw [prs_len hc]; exact cb)) (el_ok (add_new hL1 (by rw [List.length_append,prs_len hc]; exact Nat.le_of_lt (Nat.lt_trans (Nat.add_lt_add lb lc) (by decide)))) (kk _ _ _ _ _ _ _ app_get (g1.trans (Grow.app (Nat.le_trans hN (Nat.le_of_lt (lt_of_get hL1))))) (Nat.le_trans hN (Nat.le_of_lt (lt_of_get hL1)))))
end
section
variable {wf n k k2 i j:Nat} {σ:St} {rows rows2:List Row} {r q:Row} {lo lo2:Nat} {P:PX} {N:KN} {s:Sp} {F G:Fo}
theorem Cp.ids (c:Cp s F G):(ids F).length = (Mine.ids G).length:=by
 induction c with
 | nil => rfl
 | lf h ih => exact congrArg (· + 1) ih
 | el a b _ ih => exact congrArg (· + 1) ih
theorem al_end {a1 a3 L m:Nat} {x5 x6 x7 x8 x9:Option V} (h:σ[L]? = some (.list [])) (kk:N ⟨cx1 wf n,P⟩ (frAl k k2 a1 a3 L x5 x6 x7 x8 x9) σ):whileP (ev testW) (evSs bodyAl) (m + 1) ⟨cx1 wf n,P⟩ (frAl k k2 a1 a3 L x5 x6 x7 x8 x9) σ N:=elo_ok (ne_nil0 (getL_ref h)) (br_f rfl kk)
theorem al_turn {a1 a3 L m:Nat} {stk:List V} {x5 x6 x7 x8 x9:Option V} (h:σ[L]? = some (.list stk)) (hs:stk ≠ []) (kk:evSs bodyAl ⟨cx1 wf n,P⟩ (frAl k k2 a1 a3 L x5 x6 x7 x8 x9) σ fun e fr σ => whileP (ev testW) (evSs bodyAl) m e fr σ N):whileP (ev testW) (evSs bodyAl) (m + 1) ⟨cx1 wf n,P⟩ (frAl k k2 a1 a3 L x5 x6 x7 x8 x9) σ N:=elo_ok (ne_nil (getL_ref h) hs) (br_t rfl kk)
theorem eqv_lf {lf:Leaf} (hi:rows[i]? = some r) (hj:rows2[j]? = some q) (h1:LeafR r lf) (h2:LeafR q lf):Eqv rows rows2 i j [] [] r q [] [] [] 0 0:=by
 obtain ⟨p,rfl⟩:∃ p,r = leafRow lf p:=⟨_,h1⟩
 obtain ⟨p2,rfl⟩:∃ p,q = leafRow lf p:=⟨_,h2⟩
 cases lf <;> exact ⟨hi,hj,fun _ => rfl,rfl,rfl,.nil,.nil,.nil,.nil,by decide,by decide⟩
theorem eqv_el {h:Head} {ci cj:List Nat} (hi:rows[i]? = some r) (hj:rows2[j]? = some q) (H1:HeadR rows lo r h ci) (H2:HeadR rows2 lo2 q { h with ns:=(decl s h).2 } cj) (o:OkH h) (ol:h.ats.length <= 2):∃ M,Eqv rows rows2 i j ci cj r q h.ats h.ns M lo lo2:=by
 have D:=o.decl ol s
 obtain ⟨m,e,_⟩:=D.pre
 have pl:=D.len
 have h2:NsRy rows2 lo2 q.nss (decl s h).2:=H2.7
 rw [e] at h2 pl
 exact ⟨m,hi,hj,fun B => by unfold rowV; rw [H1.1,H1.2,H1.3,H1.4,H1.5,H2.1,H2.2,H2.3,H2.4,H2.5],H1.6,H2.6,H1.8,H2.8,H1.7,h2,Nat.lt_of_le_of_lt ol (by decide),Nat.lt_of_le_of_lt pl (by decide)⟩
theorem prs_cons {l m:List Nat} {base:List V}:base ++ prs (i :: l) (j :: m) = (base ++ [.tup [iv i,iv j]]) ++ prs l m:=List.append_cons ..
theorem alike_go {a1 a3 M0:Nat} (hk:k < M0) (hk2:k2 < M0) (c:Cp s F G):∀ (b:Bool) (σ:St) (L:Nat) (base:List V) (x5 x6 x7 x8 x9:Option V) (m:Nat),OkF b F -> Rep rows lo F -> Rep rows2 lo2 G -> IsT σ k rows -> IsT σ k2 rows2 -> σ[L]? = some (.list (base ++ prs (ids F) (ids G))) -> M0 <= L -> base.length + cnt F < 300000 ->
  (∀ y5 y6 y7 y8 y9 L' σ',σ'[L']? = some (.list base) -> Grow M0 σ σ' -> M0 <= L' -> whileP (ev testW) (evSs bodyAl) m ⟨cx1 wf (n + 3),P⟩ (frAl k k2 a1 a3 L' y5 y6 y7 y8 y9) σ' N) ->
  whileP (ev testW) (evSs bodyAl) (cnt F + m) ⟨cx1 wf (n + 3),P⟩ (frAl k k2 a1 a3 L x5 x6 x7 x8 x9) σ N:=by
 have ne:∀ {base:List V} {v:V},base ++ [v] ≠ []:=List.append_ne_nil_of_right_ne_nil _ (List.cons_ne_nil _ _)
 induction c with
 | nil =>
  intro b σ L base x5 x6 x7 x8 x9 m _ _ _ _ _ hL hN _ kk
  have e:prs (ids .nil) (ids .nil) = []:=rfl
  rw [e,List.append_nil] at hL
  rw [cnt,Nat.zero_add]
  exact kk _ _ _ _ _ L σ hL Grow.refl hN
 | @lf s i j lf f g c ih =>
  intro b σ L base x5 x6 x7 x8 x9 m o R1 R2 t t2 hL hN hb kk
  obtain ⟨⟨_,r,hi,hr⟩,R1⟩:=R1
  obtain ⟨⟨_,q,hj,hq⟩,R2⟩:=R2
  rw [ids,ids,prs_cons] at hL
  rw [cnt] at hb
  rw [cnt,Nat.add_assoc,Nat.add_comm 1 m]
  exact ih _ σ L _ x5 x6 x7 x8 x9 (m + 1) o.2.2 R1 R2 t t2 hL hN (by rw [List.length_append,Nat.add_assoc,Nat.add_comm [_].length]; exact hb) fun y5 y6 y7 y8 y9 L1 σ1 h1 g1 n1 =>
   al_turn h1 ne (turnAl (g1.tree hk t) (g1.tree hk2 t2) h1 (eqv_lf hi hj hr hq) rfl (show 0 < 300000 by decide) (head_lt hb) n1 hk hk2 fun z5 z6 z7 z8 z9 L2 σ2 h2 g2 n2 => kk _ _ _ _ _ L2 σ2 (by rwa [show prs [] [] = [] from rfl,List.append_nil] at h2) (g1.trans g2) n2)
 | @el s i j h c f c' g C1 C2 ihc ihf =>
  intro b σ L base x5 x6 x7 x8 x9 m o R1 R2 t t2 hL hN hb kk
  obtain ⟨⟨_,r,hi,H1⟩,Rc1,R1⟩:=R1
  obtain ⟨⟨_,q,hj,H2⟩,Rc2,R2⟩:=R2
  obtain ⟨M,E⟩:=eqv_el hi hj H1 H2 o.1.1 o.1.2
  rw [ids,ids,prs_cons] at hL
  rw [cnt] at hb
  have lc:=@ids_cnt c
  rw [show cnt (.el i h c f) + m = cnt f + ((cnt c + m) + 1) by rw [cnt]; lia]
  exact ihf _ σ L _ x5 x6 x7 x8 x9 (cnt c + m + 1) o.2.2 R1 R2 t t2 hL hN (by rw [List.length_append]; show base.length + 1 + _ < _; lia) fun y5 y6 y7 y8 y9 L1 σ1 h1 g1 n1 =>
   al_turn h1 ne (turnAl (g1.tree hk t) (g1.tree hk2 t2) h1 E C1.ids (by lia) (head_lt hb) n1 hk hk2 fun z5 z6 z7 z8 z9 L2 σ2 h2 g2 n2 =>
    ihc _ σ2 L2 base z5 z6 z7 z8 z9 m o.2.1 Rc1 Rc2 ((g1.trans g2).tree hk t) ((g1.trans g2).tree hk2 t2) h2 n2 (by lia) fun u5 u6 u7 u8 u9 L3 σ3 h3 g3 n3 => kk _ _ _ _ _ L3 σ3 h3 ((g1.trans g2).trans g3) n3)
theorem alike_ok {X:Addr -> St -> Prop} {K:V -> St -> Prop} {R R':Row} (hw:1000 <= wf) (o:OkF false F) (hc:cnt F <= 400) (c:Cp s F G) (t:IsT σ k rows) (t2:IsT σ k2 rows2) (hR:rows[0]? = some R) (RR:RootR R F) (rep:Rep rows lo F) (hR2:rows2[0]? = some R') (RR2:RootR R' G) (rep2:Rep rows2 lo2 G)
  (kk:∀ σ',Same σ σ' -> K (.bool true) σ'):R1 wf (n + 4) 625 [.ref k,iv 0,.ref k2,iv 0] [] σ K X:=by
 have lk:=lt_of_get t.1
 have lk2:=lt_of_get t2.1
 have g0:Grow σ.length σ (σ ++ [.list [.tup [iv 0,iv 0]]]):=Grow.app (Nat.le_refl _)
 have E:Eqv rows rows2 0 0 (ids F) (ids G) R R' [] [] [] 0 0:=⟨hR,hR2,fun B => by unfold rowV; rw [RR.1,RR.2,RR.3,RR.4,RR.5,RR2.1,RR2.2,RR2.3,RR2.4,RR2.5],RR.6,RR2.6,by rw [RR.7]; exact .nil,by rw [RR2.7]; exact .nil,by rw [RR.8]; exact .nil,by rw [RR2.8]; exact .nil,by decide,by decide⟩
 have h0:(σ ++ [.list [.tup [iv 0,iv 0]]])[σ.length]? = some (.list ([] ++ [.tup [iv 0,iv 0]])):=app_get
 have ic:cnt F + 2 <= wf:=Nat.le_trans (Nat.add_le_add_right hc 2) (Nat.le_trans (by decide) hw)
 have hm:wf = cnt F + (wf - (cnt F + 2) + 1) + 1:=by lia
 refine r1_of rfl rfl fun P hr _ => ?_
 have go:whileP (ev testW) (evSs bodyAl) wf ⟨cx1 wf (n + 3),P⟩ (frAl k k2 0 0 σ.length none none none none none) (σ ++ [.list [.tup [iv 0,iv 0]]]) fun e fr σ => evSs (.cons (.ret (.const (.bool true))) .nil) e fr σ endN:=by
  have:=al_turn (wf:=wf) (n:=n + 3) (P:=P) (a1:=0) (a3:=0) (m:=cnt F + (wf - (cnt F + 2) + 1)) (x5:=none) (x6:=none) (x7:=none) (x8:=none) (x9:=none) (N:=fun e fr σ => evSs (.cons (.ret (.const (.bool true))) .nil) e fr σ endN) h0 (List.cons_ne_nil _ _) (turnAl (ap_tree t) (ap_tree t2) h0 E c.ids (Nat.lt_of_le_of_lt (Nat.le_trans ids_cnt hc) (by decide)) (by decide) (Nat.le_refl _) lk lk2 fun y5 y6 y7 y8 y9 L1 σ1 h1 g1 n1 =>
   alike_go lk lk2 c false σ1 L1 [] y5 y6 y7 y8 y9 _ o rep rep2 ((g0.trans g1).tree lk t) ((g0.trans g1).tree lk2 t2) h1 n1 (Nat.lt_of_le_of_lt (Nat.add_le_add_left hc 0) (by decide)) fun z5 z6 z7 z8 z9 L2 σ2 h2 g2 n2 => al_end h2 (hr _ _ (kk _ (drop_same ((g0.trans g1).trans g2)))))
  rw [<- hm] at this
  exact this
 exact go
end
theorem Decl.fit {s:Sp} {h:Head} (D:Decl s h) (f:Fit h):Fit { h with ns:=(decl s h).2 } :=
 ⟨f.nm,fun w hw => ⟨D.con.u w hw,(xn_menu w (D.menu w hw)).2.2,(xn_menu w (D.menu w hw)).2.1⟩,D.con.nd,f.ws,f.at0,f.atl,D.len,f.al⟩
structure Cpd (s:Sp) (F G:Fo):Prop where
 fit:FitF G
 pcs:pcs s G = pcs s F
 cnt:cnt G = cnt F
 nil:isNil G = isNil F
theorem Cp.all {F G:Fo} {s:Sp} (c:Cp s F G):∀ {b:Bool},OkF b F -> Cpd s F G:=by
 induction c with
 | nil => exact fun _ => ⟨trivial,rfl,rfl,rfl⟩
 | lf h ih => exact fun o => ⟨⟨o.1,(ih o.2.2).fit⟩,congrArg (_ :: ·) (ih o.2.2).pcs,congrArg (· + 1) (ih o.2.2).cnt,rfl⟩
 | @el s i j h c f c' g _ _ ihc ihf =>
  intro b o
  have D:=o.1.1.decl o.1.2 s
  have a1:=ihc o.2.1
  have a2:=ihf o.2.2
  have da:=decl_again D
  refine ⟨⟨D.fit (o.1.1.fit o.1.2),a1.fit,a2.fit⟩,?_,by rw [Mine.cnt,Mine.cnt,a1.cnt,a2.cnt],rfl⟩
  rw [Mine.pcs,Mine.pcs,da,a1.pcs,a2.pcs,a1.nil]; rfl
section
variable {wf n k i:Nat} {σ:St} {rows:List Row} {r:Row} {K:V -> St -> Prop} {X:Addr -> St -> Prop}
theorem plain_no (t:IsT σ k rows) (hi:rows[i]? = some r) (h:(r.kind = "comment" /\ r.val = T [97,45,45,98]) \/ (r.kind = "instruction" /\ r.name = T [103,111] /\ r.val = T [97,63,62])):Xc (R1 wf (n + 4) 117 [.ref k,iv i] [] σ) 63 σ:=by
 have pk:=pkind (wf:=wf) (n:=n + 1) t hi
 have pn:=pname (wf:=wf) (n:=n + 1) t hi
 have pv:=pval (wf:=wf) (n:=n + 1) t hi
 refine xc_r1 rfl rfl fun P kx => elo_ok (psel t (by kernel_rfl)) (ca_ok pk ?_)
 rcases h with ⟨h1,h2⟩ | ⟨h1,h2,h3⟩
 ·rw [h2] at pv
  rw [h1]
  exact elo_ok (eqs_f (sne (by kernel_rfl))) (br_f rfl (elo_ok (eqs_t rfl) (br_t rfl (elo_ok (psel t (by kernel_rfl)) (ca_ok pv (ca_ex comment_no (kx _)))))))
 ·rw [h2] at pn
  rw [h3] at pv
  rw [h1]
  exact elo_ok (eqs_f (sne (by kernel_rfl))) (br_f rfl (elo_ok (eqs_f (sne (by kernel_rfl))) (br_f rfl (elo_ok (eqs_t rfl) (br_t rfl (elo_ok (psel t (by kernel_rfl)) (ca_ok pn (elo_ok (psel t (by kernel_rfl)) (ca_ok pv (ca_ex instr_no (kx _)))))))))))
theorem write_no (hw:1000 <= wf) (t:IsT σ k rows) (hi:rows[i]? = some r) (h:(r.kind = "comment" /\ r.val = T [97,45,45,98]) \/ (r.kind = "instruction" /\ r.name = T [103,111] /\ r.val = T [97,63,62])) (kx:∀ σ',X 63 σ'):R1 wf (n + 5) 142 [.ref k,iv i] [] σ K X:=by
 have lk:=lt_of_get t.1
 have kr:r.kind ≠ "root" /\ r.kind ≠ "element":=by
  rcases h with ⟨h1,_⟩ | ⟨h1,_⟩ <;> rw [h1] <;> exact ⟨sne (by kernel_rfl),sne (by kernel_rfl)⟩
 obtain ⟨m,rfl⟩:∃ m,wf = m + 1:=⟨wf - 1,(Nat.succ_pred_eq_of_pos (Nat.lt_of_lt_of_le (by decide) hw)).symm⟩
 have t1:IsT (σ ++ [.list []]) k rows:=ap_tree t
 refine r1_of rfl rfl fun P hr hx => br_f rfl (elo_ok (psel t1 (by kernel_rfl)) (ca_ok (pkind t1 hi) (elo_ok (eqs_f kr.1) (br_f rfl ⟨rfl,?_⟩))))
 have go:∀ σ3 L d,WS σ.length k rows σ3 L [] ([] ++ [.tup [iv i,.ref d]]) -> evSs (.cons (.while testW bodyW) (.cons (.ret (.meth false (.const (.str (T []))) "join" [] (some .join) (.cons (.var 3) .nil) [] .nil)) .nil)) ⟨cx1 (m + 1) (n + 4),P⟩ (frW k (iv i) (.bool false) σ.length L none none none none none) σ3 endN:=fun σ3 L d w =>
  while_turn w (List.cons_ne_nil _ _) (elo_ok (selF_pop w.l) (pop_step w (by decide) fun σ4 w4 g4 => elo_ok (a:=false) rfl (br_f rfl (elo_ok (psel w4.t (by kernel_rfl)) (ca_ok (pkind w4.t hi) (elo_ok (nes_t kr.2) (br_t rfl (elo_ok (selF_append w4.f) (ca_ex (plain_no w4.t hi h) (hx _ _ _ (kx _)))))))))))
 refine go _ _ (σ ++ [Cell.list []]).length ⟨⟨get_app (get_app t1.1),t1.2⟩,get_app (get_app app_get),app_get,?_,lk⟩
 rw [List.length_append,List.length_append]
 exact Nat.lt_of_lt_of_le (Nat.lt_succ_self _) (Nat.le_add_right _ _)
end
section
variable {wf n k i lo:Nat} {σ:St} {rows:List Row} {r:Row} {K:V -> St -> Prop} {X:Addr -> St -> Prop} {P:PX}
theorem refused_ok {b:Bool} (hw:1000 <= wf) (t:IsT σ k rows) (hi:rows[i]? = some r) (hr:r.kind = "element") (hb:rows.length + 20 < big) (hc:r.ch.length < big) (kk:∀ σ',K (.bool true) σ'):R1 wf (n + 6) 632 [.ref k,iv i,.bool b] [] σ K X:=by
 have lk:=lt_of_get t.1
 have hp:=lt_of_get hi
 have rb:=head_lt hb
 have t':∀ new,IsT (σ.set k (.pack (tree (kid rows i r new)))) k (kid rows i r new):=fun new => ⟨List.getElem?_set_self lk,by rw [kid_len]; exact rb⟩
 refine r1_of rfl rfl fun P hR _ => ?_
 cases b with
 | true => exact br_t rfl (elo_ok (psel t (by kernel_rfl)) (ca_ok (pcomment t hi (.inr hr) rb hc) (.mk (write_no hw (t' _) (put_new hp) (.inl ⟨rfl,rfl⟩) fun σ' => ⟨rfl,hR _ _ (kk _)⟩))))
 | false => exact br_f rfl (elo_ok (psel t (by kernel_rfl)) (ca_ok (pinstr t hi (.inr hr) rb hc) (.mk (write_no hw (t' _) (put_new hp) (.inr ⟨rfl,rfl,rfl⟩) fun σ' => ⟨rfl,hR _ _ (kk _)⟩))))
noncomputable def condC:CE:=(.cmp (.meth false (.var 1) "kind" [(536,456)] .none (.cons (.var 0) .nil) [] .nil) [.Eq] (.cons (.const (.str "element")) .nil))
noncomputable abbrev condP (cx:Cx) (P:PX) (k:Nat):V -> St -> (Option V -> St -> Prop) -> Prop:=fun x σ R => ev condC (EE.to ⟨cx,P⟩ fun y σ => R (some y) σ) [some x,some (.ref k)] σ fun t e fr σ => tK t fun b => Br b (ev (.var 0) e fr σ retN) (R none σ)
theorem cond_go {K:List V -> EE -> Fr -> St -> Prop} {fr:Fr} (t:IsT σ k rows) (js:List Nat):∀ (acc:List V),(∀ j ∈ js,j < rows.length) -> acc.length + js.length < 800000 -> (∀ l,l.length <= js.length -> K (acc ++ l) ⟨cx1 wf (n + 2),P⟩ fr σ) ->
  compP (fun _ => true) (condP (cx1 wf (n + 2)) P k) (ivs js) acc ⟨cx1 wf (n + 2),P⟩ fr σ K:=by
 induction js with
 | nil => exact fun acc _ _ kk => ⟨rfl,by have:=kk [] (Nat.le_refl _); rwa [List.append_nil] at this⟩
 | cons j js ih =>
  intro acc h hl kk
  have hj:=List.getElem?_eq_getElem (h j (.head _))
  have h':=fun x hx => h x (.tail _ hx)
  refine ⟨⟨rfl,Nat.le_of_lt (big9 (Nat.lt_trans (head_lt hl) (by decide)))⟩,elo_ok (psel t (by kernel_rfl)) (ca_ok (pkind t hj) ?_)⟩
  by_cases z:(rows[j]'(h j (.head _))).kind = "element"
  ·have:=ih (acc ++ [iv j]) h' (snoc_le hl) fun l hl => by rw [List.append_assoc]; exact kk _ (Nat.succ_le_succ hl)
   exact elo_ok (eqs_t z) (br_t rfl this)
  ·exact elo_ok (eqs_f z) (br_f rfl (ih acc h' (Nat.lt_of_le_of_lt (Nat.le_succ _) hl) fun l hl => kk l (Nat.le_succ_of_le hl)))
theorem no13m:(∀ m ∈ elMenu,13 ∉ m.1) /\ (∀ m ∈ atMenu,13 ∉ m.1) /\ (∀ p ∈ pairMenu,13 ∉ xn p.1) /\ (∀ v ∈ cmMenu,13 ∉ lfT (.cm v)) /\ (∀ d ∈ piMenu,13 ∉ lfT (.pi [103,111] d)):=by decide +kernel
theorem no_app {c:Nat} {a b:Tx} (ha:c ∉ a) (hb:c ∉ b):c ∉ a ++ b:=fun h => (List.mem_append.mp h).elim ha hb
theorem no13a {l:List Pr} (h:∀ p ∈ l,13 ∉ p.1):13 ∉ l.flatMap att:=fun q => by
 obtain ⟨p,hp,hq⟩:=List.mem_flatMap.mp q
 exact no_app (no_app (no_app (fun z => (List.mem_cons.mp z).elim (by decide) (h p hp)) (by decide)) (escVs_free (fun c => (escV_free c).2.2.2.1) p.2)) (by decide) hq
theorem no13 {F:Fo}:∀ {s:Sp} {b:Bool},OkF b F -> ∀ x ∈ pcs s F,13 ∉ x:=by
 induction F with
 | nil => exact fun _ x hx => nomatch hx
 | lf _ k r ih =>
  intro s b o x hx
  rcases List.mem_cons.mp hx with rfl | hx
  ·cases k with
   | tx v => exact escTs_free (fun c => (escT_free c).2.2) v
   | cm v => exact no13m.2.2.2.1 v o.1
   | pi t d => obtain ⟨rfl,o1⟩:=o.1; exact no13m.2.2.2.2 d o1
  ·exact ih o.2.2 x hx
 | el _ h c r ihc ih =>
  intro s b o x hx
  have nn:13 ∉ h.nm:=no13m.1 _ o.1.1.nm
  rcases List.mem_append.mp hx with hx | hx
  ·rcases List.mem_cons.mp hx with rfl | hx
   ·have ta:13 ∉ (Mine.told h (Mine.decl s h).2).flatMap att:=no13a fun p hp => by
     rcases List.mem_append.mp hp with hp | hp
     ·obtain ⟨w,hw,rfl⟩:=List.mem_map.mp hp
      exact no13m.2.2.1 w ((o.1.1.decl o.1.2 s).menu w hw)
     ·obtain ⟨w,hw,rfl⟩:=List.mem_map.mp hp
      exact no13m.2.1 (w.nm,w.uri) (o.1.1.ats w hw).1
    exact no_app (no_app (fun z => (List.mem_cons.mp z).elim (by decide) nn) ta) (by cases isNil c <;> decide)
   ·rcases List.mem_append.mp hx with hx | hx
    ·exact ihc o.2.1 x hx
    ·cases hb:isNil c with
     | true => rw [hb] at hx; cases hx
     | false => rw [hb] at hx; rw [List.mem_singleton.mp hx]; exact no_app (no_app (by decide) nn) (by decide)
  ·exact ih o.2.2 x hx
theorem no13t {F:Fo} {b:Bool} (o:OkF b F):13 ∉ text F:=fun q => by
 obtain ⟨x,hx,hq⟩:=List.mem_flatten.mp q
 exact no13 o x hx hq
theorem repl_big {v:Tx} {a c:Nat} (h:a ∉ v) (hv:v.length < 900000):replF (T [a]) (T [c]) (.str (T v)) σ = .ok (.str (T v)) σ:=by
 show (if (T v).length <= big then Out.ok (V.str (Txt.replace (T v) (T [a]) (T [c]))) σ else .bad) = _
 rw [if_pos (by rw [T_length]; exact Nat.le_of_lt (big9 hv)),replace_T]
 refine congrArg (fun z => Out.ok (.str (T z)) σ) ?_
 conv => rhs; rw [<- List.map_id v]
 exact List.map_congr_left fun x hx => if_neg fun e => h (by rw [<- e]; exact hx)
theorem write_one {h:Head} (hw:1000 <= wf) (t:IsT σ k rows) (hi:rows[i]? = some r) (H:HeadR rows 0 r h []) (f:Fit h) (kk:∀ σ',Same σ σ' -> K (.str (T (tagT h (decl xmlS h).2 true))) σ'):R1 wf (n + 5) 142 [.ref k,iv i] [] σ K X:=by
 have lk:=lt_of_get t.1
 have kr:r.kind ≠ "root":=by rw [H.kind]; exact sne (by kernel_rfl)
 have t1:IsT (σ ++ [.list []]) k rows:=ap_tree t
 have hm:wf = 1 + (wf - 2 + 1):=by lia
 have tl:=tag_len (e:=true) f (f.decl xmlS).2 (f.decl xmlS).1
 have fl:(pcs xmlS (.el i h .nil .nil)).flatten = tagT h (decl xmlS h).2 true:=List.append_nil _
 refine r1_of rfl rfl fun P hr hx => br_f rfl (elo_ok (psel t1 (by kernel_rfl)) (ca_ok (pkind t1 hi) (elo_ok (eqs_f kr) (br_f rfl ⟨rfl,?_⟩))))
 have go:∀ σ3 L d,WS σ.length k rows σ3 L [] ([] ++ [.tup [iv i,.ref d]]) -> Grow σ.length σ σ3 -> σ3[d]? = some (.dict (scL xmlS)) -> evSs (.cons (.while testW bodyW) (.cons (.ret (.meth false (.const (.str (T []))) "join" [] (some .join) (.cons (.var 3) .nil) [] .nil)) .nil)) ⟨cx1 wf (n + 4),P⟩ (frW k (iv i) (.bool false) σ.length L none none none none none) σ3 endN:=fun σ3 L d w g hd => by
  have:=write_go (wf:=wf) (n:=n) (a2:=iv i) (a3:=.bool false) (P:=P) (N:=fun e fr σ' => evSs (.cons (.ret (.meth false (.const (.str (T []))) "join" [] (some .join) (.cons (.var 3) .nil) [] .nil)) .nil) e fr σ' endN) (lo:=0) (.el i h .nil .nil) xmlS σ3 L [] [] [.tup [iv i,.ref d]] none none none none none (wf - 2 + 1) ⟨f,trivial,trivial⟩ ⟨⟨Nat.zero_le _,r,hi,H⟩,trivial,trivial⟩ w (.cons ⟨d,rfl,hd⟩ .nil) (show 1 + 8 * 1 < 600000 by decide) (show 0 + 2 * 1 < 300000 by decide) (show 0 + 2 * 1 < 300000 by decide)
   fun σ2 L2 y5 y6 y7 y8 y9 w2 g2 => while_end w2 (elo_ok rfl (el_ok (join_ref w2.f (by rw [List.nil_append,fl]; exact Nat.le_trans tl (by decide))) (by rw [List.nil_append,fl]; exact hr _ _ (kk _ (drop_same (g.trans g2))))))
  rw [show itr (.el i h .nil .nil) = 1 from rfl,<- hm] at this
  exact this
 have xd:=xml_dict
 refine go _ _ (σ ++ [Cell.list []]).length ⟨⟨get_app (get_app t1.1),t1.2⟩,get_app (get_app app_get),app_get,?_,lk⟩ ?_ ?_
 ·rw [List.length_append,List.length_append]
  exact Nat.lt_of_lt_of_le (Nat.lt_succ_self _) (Nat.le_add_right _ _)
 ·rw [List.append_assoc,List.append_assoc]; exact Grow.app (Nat.le_refl _)
 ·rw [<- xd]; exact get_app app_get
end
noncomputable def rtR:Row:=⟨"root",T [],T [],T [],T [],none,[],[],[]⟩
noncomputable def ro1:List Row:=[rtR]
noncomputable def ro2:List Row:=kid ro1 0 rtR ⟨"element",T [112,58,99],T [118],T [99],T [],some 0,[],[],[]⟩
noncomputable def ro3:List Row:=nssed ro2 1 ⟨"element",T [112,58,99],T [118],T [99],T [],some 0,[],[],[]⟩ ⟨"namespace",T [112],T [],T [112],T [118],some 1,[],[],[]⟩
noncomputable def ro4:List Row:=ro3 ++ [rtR]
noncomputable def ro5:List Row:=kid ro4 3 rtR ⟨"element",T [113,58,100],T [119],T [100],T [],some 3,[],[],[]⟩
noncomputable def ro6:List Row:=atted ro5 4 ⟨"element",T [113,58,100],T [119],T [100],T [],some 3,[],[],[]⟩ ⟨"attribute",T [113,58,110],T [119],T [110],T [49],some 4,[],[],[]⟩
noncomputable def hd1:Head:=⟨[112,58,99],[118],[99],[([112],[118])],[]⟩
noncomputable def hd2:Head:=⟨[113,58,100],[119],[100],[],[⟨[113,58,110],[119],[110],[49]⟩]⟩
theorem fit1:Fit hd1:=⟨by decide,by decide +kernel,by decide +kernel,by decide +kernel,nofun,nofun,by decide,by decide⟩
theorem fit2:Fit hd2:=⟨by decide,nofun,.nil,by decide +kernel,fun a ha => by rw [List.mem_singleton.mp ha]; decide +kernel,fun a ha => by rw [List.mem_singleton.mp ha]; decide,by decide,by decide⟩
section
variable {wf n:Nat} {σ:St} {a b:Int} {K:V -> St -> Prop} {X:Addr -> St -> Prop}
theorem sm_grow {σ':St} (s:Same [src a b] σ'):Grow 1 [src a b] σ':=⟨s.1,s.2,fun d l h => by
 cases d with
 | zero => cases h
 | succ d => cases h⟩
theorem Same.trans {σ σ' σ'':St} (s:Same σ σ') (t:Same σ' σ''):Same σ σ'':=⟨Nat.le_trans s.1 t.1,fun i hi => (t.2 i (Nat.lt_of_lt_of_le hi s.1)).trans (s.2 i hi)⟩
theorem Same.tree {σ σ':St} {k:Nat} {rows:List Row} (s:Same σ σ') (t:IsT σ k rows):IsT σ' k rows:=⟨(s.2 k (lt_of_get t.1)).trans t.1,t.2⟩
theorem told_eq {σ:St}:cmpQ σ .Eq (.lst [.str (T (tagT hd1 (decl xmlS hd1).2 true)),.str (T (tagT hd2 (decl xmlS hd2).2 true))]) (.lst [.str "<p:c xmlns:p=\"v\"/>",.str "<q:d xmlns:q=\"w\" q:n=\"1\"/>"]) = some true:=by kernel_rfl
theorem told_right (hw:1000 <= wf) (kk:K (.bool true) [src a b]):R1 wf (n + 6) 639 [] [] [src a b] K X:=by
 have tr:∀ rows:List Row,rows.length <= big -> IsT [src a b,.pack (tree rows)] 1 rows:=fun rows h => ⟨rfl,h⟩
 have T0:=tr [] (by decide)
 have T1:=tr ro1 (show 1 <= big by decide)
 have T2:=tr ro2 (show 2 <= big by decide)
 have T3:=tr ro3 (show 3 <= big by decide)
 have T4:=tr ro4 (show 4 <= big by decide)
 have T5:=tr ro5 (show 5 <= big by decide)
 have T6:=tr ro6 (show 6 <= big by decide)
 have p1:Ok (innF (cx1 wf (n + 5)) 386 (.ref 1) [] [] [src a b,.pack (tree [])]) (iv 0) [src a b,.pack (tree ro1)]:=proot T0 (by decide)
 have p2:Ok (innF (cx1 wf (n + 5)) 400 (.ref 1) [iv 0,.str (T [112,58,99]),.str (T [118]),.str (T [99])] [] [src a b,.pack (tree ro1)]) (iv 1) [src a b,.pack (tree ro2)]:=pelement T1 (i:=0) (r:=rtR) rfl (.inl rfl) (show 1 < big by decide) (show 0 < big by decide)
 have p3:Ok (innF (cx1 wf (n + 5)) 442 (.ref 1) [iv 1,.str (T [112]),.str (T [118])] [] [src a b,.pack (tree ro2)]) (iv 2) [src a b,.pack (tree ro3)]:=pns_new T2 (i:=1) rfl rfl (show 2 < big by decide) (show 0 < big by decide) nofun
 have p4:Ok (innF (cx1 wf (n + 5)) 386 (.ref 1) [] [] [src a b,.pack (tree ro3)]) (iv 3) [src a b,.pack (tree ro4)]:=proot T3 (show 3 < big by decide)
 have p5:Ok (innF (cx1 wf (n + 5)) 400 (.ref 1) [iv 3,.str (T [113,58,100]),.str (T [119]),.str (T [100])] [] [src a b,.pack (tree ro4)]) (iv 4) [src a b,.pack (tree ro5)]:=pelement T4 (i:=3) (r:=rtR) rfl (.inl rfl) (show 4 < big by decide) (show 0 < big by decide)
 have p6:Ok (innF (cx1 wf (n + 5)) 435 (.ref 1) [iv 4,.str (T [113,58,110]),.str (T [119]),.str (T [110]),.str (T [49])] [] [src a b,.pack (tree ro5)]) (iv 5) [src a b,.pack (tree ro6)]:=pattr_new T5 (i:=4) rfl rfl (show 5 < big by decide) (show 0 < big by decide) nofun
 have H1:HeadR ro6 0 ⟨"element",T [112,58,99],T [118],T [99],T [],some 0,[],[],[2]⟩ hd1 []:=⟨rfl,rfl,rfl,rfl,rfl,rfl,.cons ⟨Nat.zero_le _,_,rfl,rfl,rfl,rfl⟩ .nil,.nil⟩
 have H2:HeadR ro6 0 ⟨"element",T [113,58,100],T [119],T [100],T [],some 3,[],[5],[]⟩ hd2 []:=⟨rfl,rfl,rfl,rfl,rfl,rfl,.nil,.cons ⟨Nat.zero_le _,_,rfl,rfl,rfl,rfl,rfl,rfl⟩ .nil⟩
 refine r1_of rfl rfl fun P hr _ => ca_ok (tree_made (n:=n + 4)) (elo_ok (psel T0 (by kernel_rfl)) (elo_ok (psel T0 (by kernel_rfl)) (ca_ok p1 (ca_ok p2 (elo_ok (psel T2 (by kernel_rfl)) (ca_ok p3 (elo_ok (psel T3 (by kernel_rfl)) (elo_ok (psel T3 (by kernel_rfl)) (ca_ok p4 (ca_ok p5 (elo_ok (psel T5 (by kernel_rfl)) (ca_ok p6 ?_))))))))))))
 refine Ca.mk (write_one (i:=1) hw T6 rfl H1 fit1 fun σ1 s1 => Ca.mk (write_one (i:=4) hw (s1.tree T6) rfl H2 fit2 fun σ2 s2 => elo_ok told_eq (hr _ _ ?_)))
 have s0:Same [src a b] [src a b,.pack (tree ro6)]:=⟨(by decide:1 <= 2),fun i hi => by
  cases i with
  | zero => rfl
  | succ i => exact absurd hi (Nat.not_lt.mpr (Nat.succ_le_succ (Nat.zero_le i)))⟩
 rw [dropF_grow (sm_grow ((s0.trans s1).trans s2)) rfl rfl]
 exact kk
end
theorem Same.at0 {σ σ':St} (s:Same σ σ') (a:At0 σ):At0 σ':=by
 obtain ⟨x,y,e,h⟩:=a
 exact ⟨x,y,(s.2 0 (lt_of_get e)).trans e,h⟩
theorem Same.app {σ ext:St}:Same σ (σ ++ ext):=⟨by rw [List.length_append]; exact Nat.le_add_right _ _,fun i hi => List.getElem?_append_left hi⟩
noncomputable def d0:Tx:=[60,63,120,109,108,32,118,101,114,115,105,111,110,61,34,49,46,48,34,32,101,110,99,111,100,105,110,103,61,34,85,84,70,45,56,34,63,62]
section
variable {σ:St} {t:Tx}
theorem dec_len (h:t.length <= 800000):(decT ++ t).length < 900000:=by rw [List.length_append]; exact Nat.lt_of_le_of_lt (Nat.add_le_add_left h 39) (by decide)
theorem dec_split (h:t.length <= 800000):bmF false .split (.str (T (decT ++ t))) [.str (T [10]),.int 1] σ = .ok (.lst [.str (T d0),.str (T t)]) σ:=by
 show (if (T [10]).length = 1 /\ (some 1:Option Int) = some 1 /\ (T (decT ++ t)).length <= big then okL false ((Txt.splitMax (T (decT ++ t)) (T [10]) 1).map .str) σ else .bad) = _
 rw [if_pos ⟨rfl,rfl,by rw [T_length]; exact Nat.le_of_lt (big9 (dec_len h))⟩,show decT ++ t = d0 ++ 10 :: t from rfl,splitMax_one (by decide) (by decide)]
 exact okL_small (show 2 < 1000 by decide)
theorem dec_cut (h:t.length <= 800000):sliceF false (.str (T (decT ++ t))) .none (.int 19) .none σ = .ok (.str (T [60,63,120,109,108,32,118,101,114,115,105,111,110,61,34,49,46,48,34])) σ:=by
 have:=sl_to (σ:=σ) (b:=19) (dec_len h)
 exact this
end
theorem law_tail {σ:St} {rows:List Row} {F:Fo} {R:Row} {P:PX} {x5 x6 x7 x8:Option V} {ns:List Int} (hw:1000 <= 100000) (T3:IsT σ 1 rows) (A3:At0 σ) (hR:rows[0]? = some R) (RR:RootR R F) (rep:Rep rows 1 F) (o:OkF false F) (first:isEl F = true) (hc:cnt F <= 400) (rl:rows.length <= 100000) (kk:∀ σ',P.ret (.bool true) σ') :
  evSs (.cons (.asg 7 (.fn 142 (.cons (.var 2) (.cons (.var 3) .nil)) ["declaration"] (.cons (.const (.bool true)) .nil))) (.cons (.ite (.or (.cmp (.sub (.meth false (.var 7) "split" [] (some .split) (.cons (.const (.str (T [10]))) (.cons (.const (.int 1)) .nil)) [] .nil) (.const (.int 1))) [.NotEq] (.cons (.var 4) .nil)) (.or (.cmp (.slice false (.var 7) (.const (.none)) (.const (.int 19)) (.const (.none))) [.NotEq] (.cons (.const (.str (T [60,63,120,109,108,32,118,101,114,115,105,111,110,61,34,49,46,48,34]))) .nil)) (.const (.bool false)))) (.cons (.ret (.const (.bool false))) .nil) .nil) (.cons (.asg 8 (.sub (.compIf false (.meth false (.var 2) "children" [(536,498)] .none (.cons (.var 3) .nil) [] .nil) [2] condC (.var 0)) (.const (.int 0)))) (.cons (.ret (.fn 632 (.cons (.var 2) (.cons (.var 8) (.cons (.cmp (.fn 554 (.cons (.var 1) (.cons (.const (.int 2)) .nil)) [] .nil) [.Eq] (.cons (.const (.int 0)) .nil)) .nil))) [] .nil)) .nil)))) ⟨cx1 100000 20,P⟩ [some (.lst (ns.map .int)),some (.ref 0),some (.ref 1),some (iv 0),some (.str (T (text F))),x5,x6,x7,x8] σ endN:=by
 have tl:=text_len o.fit hc
 refine Ca.mk (write_decl T3 hR RR rep o.fit hc hw fun σ10 m10 => elo_ok rfl (el_ok (dec_split tl) (elo_ok (a:=V.str (T (text F))) rfl (elo_ok (nes_f rfl) (br_f rfl (el_ok (dec_cut tl) (elo_ok (nes_f rfl) (br_f rfl (br_f rfl ?_)))))))))
 have T10:=m10.tree T3
 have A10:=m10.at0 A3
 have lc:(ids F).length <= 400:=Nat.le_trans ids_cnt hc
 have e15:=pch (wf:=100000) (n:=18) T10 hR (by rw [RR.ch]; exact Nat.le_trans lc (by decide))
 rw [RR.ch] at e15
 have hlt:=rep.lt
 cases F with
 | nil => cases first
 | lf => cases first
 | el i h c r =>
  obtain ⟨⟨_,row,hi,H⟩,_⟩:=rep
  have lc:(ids r).length + 1 <= 400:=lc
  have cb:row.ch.length < big:=by
   rw [H.6]
   exact big_of (Nat.lt_of_le_of_lt (Nat.le_trans ids_cnt (Nat.le_trans (Nat.le_trans (Nat.le_add_right _ _) (Nat.le_succ _)) hc)) (by decide))
  have go:=cond_go (wf:=100000) (n:=18) (P:=P) (fr:=[some (.lst (ns.map .int)),some (.ref 0),some (.ref 1),some (iv 0),some (.str (T (text (.el i h c r)))),x5,x6,some (.str (T (decT ++ text (.el i h c r)))),x8]) (K:=fun vs e fr σ => El e fr (okL false vs σ) fun a e fr σ => ElO (subF σ a (.int 0)) e fr σ fun v e fr σ => evSs (.cons (.ret (.fn 632 (.cons (.var 2) (.cons (.var 8) (.cons (.cmp (.fn 554 (.cons (.var 1) (.cons (.const (.int 2)) .nil)) [] .nil) [.Eq] (.cons (.const (.int 0)) .nil)) .nil))) [] .nil)) .nil) e (setF fr 8 v) σ endN) T10 (ids r) [iv i] (fun j hj => hlt j (.tail _ hj)) (Nat.lt_of_le_of_lt (Nat.add_comm _ _ ▸ lc) (by decide)) fun l hl => by
   have lb:([iv i] ++ l).length <= big:=by rw [List.length_append]; exact Nat.le_trans (Nat.add_le_add_left hl 1) (Nat.le_trans (Nat.add_comm _ _ ▸ lc) (by decide))
   refine el_ok (okL_ok lb) (elo_ok (sub_lst (i:=0) rfl lb) (Ca.mk (take_d A10 (by decide) (by decide) fun d σ11 d1 dr => elo_ok (a:=decide ((d:Int) = 0)) rfl (Ca.mk (refused_ok hw (dr.tree (by decide) T10) hi H.1 ?_ cb fun σ12 => kk σ12)))))
   exact Nat.lt_of_le_of_lt (Nat.add_le_add_right rl 20) (by decide)
  refine elo_ok (psel T10 (by kernel_rfl)) (ca_ok e15 (elo_ok (a:=iv i :: ivs (ids r)) rfl ⟨⟨rfl,Nat.zero_le _⟩,elo_ok (psel T10 (by kernel_rfl)) (ca_ok (pkind T10 hi) (elo_ok (eqs_t H.1) (br_t rfl go)))⟩))
theorem plain_law (ns:List Int) (hl:ns.length <= 63) {K:V -> St -> Prop} {X:Addr -> St -> Prop} (kk:∀ σ',K (.bool true) σ'):R1 100000 21 644 [.lst (ns.map .int)] [] [] K X:=by
 have hw:1000 <= 100000:=by decide
 refine r1_of rfl rfl fun P hR _ => Ca.mk (pool_ok hl fun a b s0 => Ca.mk (told_right hw (br_f rfl (ca_ok tree_made (Ca.mk (document_ok s0 fun rows els F a' b' t s3 D ht => ?_))))))
 obtain ⟨R,hR0,RR⟩:=D.root
 have rl:rows.length <= 100000:=Nat.le_trans D.len (Nat.le_trans (Nat.add_le_add_left (Nat.mul_le_mul_left 10 ht) 1) (by decide))
 have rb:rows.length <= big:=Nat.le_trans rl (by decide)
 have T3:IsT [src a' b',.pack (tree rows)] 1 rows:=⟨rfl,rb⟩
 have A3:At0 [src a' b',.pack (tree rows)]:=⟨a',b',rfl,s3⟩
 have hc:cnt F <= 400:=Nat.le_trans D.size (Nat.le_trans (Nat.pow_le_pow_right (by decide) ht) (by decide))
 have o:=D.ok
 have tl:=text_len o.fit hc
 generalize [src a' b',.pack (tree rows)] = σ3 at T3 A3
 refine Ca.mk (write_plain T3 hR0 RR D.rep o.fit hc hw fun σ4 m4 => ca_ok tree_made ?_)
 have T4:=m4.tree T3
 have A4:=m4.at0 A3
 have m5:Same σ4 (σ4 ++ [.pack (tree [])]):=Same.app
 have T5:=m5.tree T4
 have A5:=m5.at0 A4
 have T5':IsT (σ4 ++ [.pack (tree [])]) σ4.length []:=⟨app_get,Nat.zero_le _⟩
 have l4:=lt_of_get T4.1
 refine el_ok (repl_big (a:=13) (c:=10) (no13t o) (Nat.lt_of_le_of_lt tl (by decide))) (Ca.mk (events_ok hw o hc fun M σ6 hM g6 => ?_))
 have m6:Same (σ4 ++ [.pack (tree [])]) σ6:=⟨g6.1,g6.2.1⟩
 have T6:=m6.tree T5
 have A6:=m6.at0 A5
 have T6':=m6.tree T5'
 refine Ca.mk (build_ok T6' hM o hc fun G rows2 σ7 R2 T7' k7 l7 hR2 RR2 rep2 cp => ?_)
 have T7:IsT σ7 1 rows:=⟨(k7 1 (lt_of_get T6.1) (Nat.ne_of_lt l4)).trans T6.1,rb⟩
 have A7:At0 σ7:=by
  obtain ⟨x,y,e,h⟩:=A6
  exact ⟨x,y,(k7 0 (lt_of_get e) (Nat.ne_of_lt (Nat.lt_trans Nat.one_pos l4))).trans e,h⟩
 refine Ca.mk (alike_ok hw o hc cp T7 T7' hR0 RR D.rep hR2 RR2 rep2 fun σ8 m8 => br_f rfl ?_)
 have ca:=cp.all o
 have tG:text G = text F:=by unfold text; rw [ca.pcs]
 refine Ca.mk (write_plain (m8.tree T7') hR2 RR2 rep2 ca.fit (by rw [ca.cnt]; exact hc) hw fun σ9 m9 => ?_)
 exact elo_ok (nes_f (congrArg T tG)) (br_f rfl (br_f rfl (law_tail hw (m9.tree (m8.tree T7)) (m9.at0 (m8.at0 A7)) hR0 RR D.rep o D.first hc rl fun σ' => hR _ _ (kk _))))
@[irreducible] noncomputable def Pg:Program:=PySem.Challenge.rw_nu0076_01.row.prog
noncomputable def PlainTup (h:Heap) (a:Addr) (items:Array Value):Prop:=∃ n,h.get? a = some { cls:=.type "tuple",data:=.seq items n }
theorem PlainTup.isTuple {h:Heap} {a:Addr} {items:Array Value} (x:PlainTup h a items):h.IsTuple a items:=let ⟨n,e⟩:=x; ⟨_,e,rfl,n,rfl⟩
structure G where
 n:Nat
 ρ:Nat -> Addr
 ow:Nat -> Addr -> Prop
 forb:Addr -> Prop
noncomputable def G.unow (g:G) (a:Addr):Prop:=∀ i,i < g.n -> ¬ g.ow i a
noncomputable def G.free (g:G) (a:Addr):Prop:=g.unow a /\ ¬ g.forb a
inductive AtR (n:Nat) (ρ:Nat -> Addr) (i:Nat):Value -> Prop | mk (h:i < n):AtR n ρ i (.ref (ρ i))
noncomputable abbrev G.at (g:G):Nat -> Value -> Prop:=AtR g.n g.ρ
inductive IntR (i:Int):Value -> Prop | mk (t:Tok):IntR i (.int i t)
inductive StrR (s:Str):Value -> Prop | mk (t:Tok) (ok:PyData.strOk s = true):StrR s (.str s t)
inductive TupR (h:Heap) (P:List Value -> Prop):Value -> Prop | mk (a:Addr) (items:Array Value) (p:PlainTup h a items) (r:P items.toList):TupR h P (.ref a)
inductive LstR (h:Heap) (U:Addr -> Prop) (P:List Value -> Prop):Value -> Prop | mk (a:Addr) (items:Array Value) (u:U a) (p:h.PlainList a items) (r:P items.toList):LstR h U P (.ref a)
inductive RngR (h:Heap) (i j k:Int):Value -> Prop | mk (a:Addr) (t u x:Tok) (p:IsRange h a i j k t u x):RngR h i j k (.ref a)
inductive ConsR (P:Value -> Prop) (Q:List Value -> Prop):List Value -> Prop | mk (x:Value) (xs:List Value) (h:P x) (r:Q xs):ConsR P Q (x :: xs)
inductive KConsR (k:Str) (P:Value -> Prop) (Q:List (Str × Value) -> Prop):List (Str × Value) -> Prop | mk (x:Value) (xs:List (Str × Value)) (h:P x) (r:Q xs):KConsR k P Q ((k,x) :: xs)
inductive HConsR (k:List Str) (P:Value -> Prop) (Q:List (List Str × Addr × Value) -> Prop):List (List Str × Addr × Value) -> Prop | mk (a:Addr) (x:Value) (xs:List (List Str × Addr × Value)) (h:P x) (r:Q xs):HConsR k P Q ((k,a,x) :: xs)
section
variable (h:Heap) (U:Addr -> Prop) (R:Nat -> Value -> Prop)
mutual
noncomputable def VR:V -> Value -> Prop
 | .none => fun v => v = .none
 | .bool b => fun v => v = .bool b
 | .int i => IntR i
 | .str s => StrR s
 | .tup l => TupR h (VRs l)
 | .lst l => LstR h U (VRs l)
 | .rng i j k => RngR h i j k
 | .ref n => R n
noncomputable def VRs:List V -> List Value -> Prop
 | [] => fun l => l = []
 | v :: vs => ConsR (VR v) (VRs vs)
end
end
noncomputable def KVs (P:V -> Value -> Prop):List (Str × V) -> List (Str × Value) -> Prop
 | [] => fun l => l = []
 | p :: r => KConsR p.1 (P p.2) (KVs P r)
noncomputable def KHs (P:V -> Value -> Prop):List (List Str × V) -> List (List Str × Addr × Value) -> Prop
 | [] => fun l => l = []
 | p :: r => HConsR p.1 (P p.2) (KHs P r)
noncomputable def OptR (P:V -> Value -> Prop):Option V -> Option Value -> Prop
 | none,x => x = none
 | some v,x => ∃ y,x = some y /\ P v y
theorem VRs.length {h:Heap} {U:Addr -> Prop} {R:Nat -> Value -> Prop} {vs:List V}:∀ {l:List Value},VRs h U R vs l -> l.length = vs.length:=by
 induction vs with
 | nil => intro l e; cases e; rfl
 | cons v vs ih => intro l e; obtain ⟨x,xs,_,r⟩:=e; exact congrArg (· + 1) (ih r)
theorem VRs.get {h:Heap} {U:Addr -> Prop} {R:Nat -> Value -> Prop} {vs:List V}:∀ {l:List Value} {i:Nat} {v:V},VRs h U R vs l -> vs[i]? = some v -> ∃ x,l[i]? = some x /\ VR h U R v x:=by
 induction vs with
 | nil => intro l i v e q; cases q
 | cons w vs ih =>
  intro l i v e q
  obtain ⟨x,xs,hx,r⟩:=e
  cases i with
  | zero => cases q; exact ⟨x,rfl,hx⟩
  | succ i => exact ih (l:=xs) r q
theorem VRs.append {h:Heap} {U:Addr -> Prop} {R:Nat -> Value -> Prop} {vs ws:List V} {l m:List Value} (e:VRs h U R vs l) (q:VRs h U R ws m):VRs h U R (vs ++ ws) (l ++ m):=by
 induction vs generalizing l with
 | nil => cases e; exact q
 | cons w vs ih => obtain ⟨x,xs,hx,r⟩:=e; exact ⟨x,xs ++ m,hx,ih r⟩
section
variable {h h':Heap} {U U':Addr -> Prop} {R R':Nat -> Value -> Prop}
structure VMono (h h':Heap) (U U':Addr -> Prop) (R R':Nat -> Value -> Prop):Prop where
 t:∀ a items,PlainTup h a items -> PlainTup h' a items
 g:∀ a i j k t u x,IsRange h a i j k t u x -> IsRange h' a i j k t u x
 l:∀ a items,U a -> h.PlainList a items -> U' a /\ h'.PlainList a items
 r:∀ n v,R n v -> R' n v
theorem VMono.same (hU:∀ a,U a -> U' a) (hr:∀ n v,R n v -> R' n v):VMono h h U U' R R':=⟨fun _ _ e => e,fun _ _ _ _ _ _ _ e => e,fun a _ u e => ⟨hU a u,e⟩,hr⟩
theorem VMono.grown (hk:∀ a o,h.get? a = some o -> h'.get? a = some o) (hU:∀ a o,h.get? a = some o -> U a -> U' a) (hr:∀ n v,R n v -> R' n v):VMono h h' U U' R R' :=
 ⟨fun _ _ ⟨n,e⟩ => ⟨n,hk _ _ e⟩,fun _ _ _ _ _ _ _ e => hk _ _ e,fun a _ u ⟨n,e⟩ => ⟨hU a _ e u,n,hk _ _ e⟩,hr⟩
mutual
theorem VR.mono (M:VMono h h' U U' R R'):∀ {v:V} {x:Value},VR h U R v x -> VR h' U' R' v x
 | .none,_,e => e
 | .bool _,_,e => e
 | .int _,_,e => e
 | .str _,_,e => e
 | .tup l,_,e => by obtain ⟨a,items,p,r⟩:=e; exact ⟨a,items,M.t _ _ p,VRs.mono M r⟩
 | .lst l,_,e => by obtain ⟨a,items,u,p,r⟩:=e; exact ⟨a,items,(M.l _ _ u p).1,(M.l _ _ u p).2,VRs.mono M r⟩
 | .rng _ _ _,_,e => by obtain ⟨a,t,u,x,p⟩:=e; exact ⟨a,t,u,x,M.g _ _ _ _ _ _ _ p⟩
 | .ref n,_,e => M.r _ _ e
theorem VRs.mono (M:VMono h h' U U' R R'):∀ {vs:List V} {l:List Value},VRs h U R vs l -> VRs h' U' R' vs l
 | [],_,e => e
 | _ :: _,_,e => by obtain ⟨x,xs,hx,r⟩:=e; exact ⟨x,xs,VR.mono M hx,VRs.mono M r⟩
end
end
theorem KVs.mono {P P':V -> Value -> Prop} (hp:∀ v x,P v x -> P' v x) {l:List (Str × V)}:∀ {m:List (Str × Value)},KVs P l m -> KVs P' l m:=by
 induction l with
 | nil => exact fun e => e
 | cons p l ih => intro m e; obtain ⟨x,xs,hx,r⟩:=e; exact ⟨x,xs,hp _ _ hx,ih r⟩
theorem KHs.mono {P P':V -> Value -> Prop} (hp:∀ v x,P v x -> P' v x) {l:List (List Str × V)}:∀ {m:List (List Str × Addr × Value)},KHs P l m -> KHs P' l m:=by
 induction l with
 | nil => exact fun e => e
 | cons p l ih => intro m e; obtain ⟨a,x,xs,hx,r⟩:=e; exact ⟨a,x,xs,hp _ _ hx,ih r⟩
theorem OptR.mono {P P':V -> Value -> Prop} (hp:∀ v x,P v x -> P' v x) {a:Option V} {x:Option Value} (e:OptR P a x):OptR P' a x:=by
 cases a with
 | none => exact e
 | some v => exact e.elim fun y q => ⟨y,q.1,hp _ _ q.2⟩
structure Hb where
 heap:Heap
 io:OsState × Array GenState
 envs:List Env
 w:World
 k:Nat
noncomputable abbrev Hb.get? (b:Hb) (a:Addr):Option Obj:=b.heap.get? a
noncomputable abbrev Hb.M (b:Hb):Model:=model Pg b.w
noncomputable abbrev SK (w:World):PySem.KeyKind Pg w Str:=strKind Pg w
noncomputable abbrev sio (s:Shared):OsState × Array GenState:=(s.os,s.gens)
structure Ms where
 σ:St
 g:G
 s:Shared
noncomputable abbrev Ms.h (m:Ms):Heap:=m.s.heap
noncomputable abbrev VM (m:Ms):V -> Value -> Prop:=VR m.s.heap m.g.free m.g.at
noncomputable abbrev VMs (m:Ms):List V -> List Value -> Prop:=VRs m.s.heap m.g.free m.g.at
inductive ListC (h:Heap) (P:List Value -> Prop) (a:Addr) (own:Addr -> Prop):Prop | mk (items:Array Value) (p:h.PlainList a items) (r:P items.toList) (w:∀ x,own x ↔ x = a)
inductive DictC (w:World) (h:Heap) (P:List (Str × Value) -> Prop) (a:Addr) (own:Addr -> Prop):Prop | mk (m:List (Str × Value)) (p:h.DictOf (SK w) a m) (r:P m) (o:∀ x,own x ↔ x = a)
inductive TDictC (w:World) (h:Heap) (P:List (List Str × Addr × Value) -> Prop) (a:Addr) (own:Addr -> Prop):Prop
 | mk (m:List (List Str × Addr × Value)) (p:h.DictOfH (tupleKind (SK w)) a m) (t:∀ x ∈ m,∃ items,PlainTup h x.2.1 items) (r:P m) (o:∀ x,own x ↔ x = a)
inductive InstC (h:Heap) (c:Addr) (P:Str -> Option Value -> Prop) (a:Addr) (own:Addr -> Prop):Prop
 | mk (dx:Addr) (m:Str -> Option Value) (o:h.get? a = some (instObj c dx)) (ns:h.Ns1 dx m) (ne:a ≠ dx) (r:∀ k,P k (m k)) (w:∀ x,own x ↔ (x = a \/ x = dx))
noncomputable def CellW (w:World) (h:Heap) (K:List Cell -> Addr -> (Addr -> Prop) -> Prop) (U:Addr -> Prop) (R:Nat -> Value -> Prop):Cell -> Addr -> (Addr -> Prop) -> Prop
 | .list vs => ListC h (VRs h U R vs)
 | .dict kvs => DictC w h (KVs (VR h U R) kvs)
 | .tdict kvs => TDictC w h (KHs (VR h U R) kvs)
 | .inst c fs => InstC h c fun k => OptR (VR h U R) (fs.lookup k)
 | .pack σ => K σ
inductive PackC (w:World) (h:Heap) (K:List Cell -> Addr -> (Addr -> Prop) -> Prop) (σ:List Cell) (a:Addr) (own:Addr -> Prop):Prop
 | mk (g:G) (n:g.n = σ.length) (pos:0 < g.n) (at_:∀ i c,σ[i]? = some c -> CellW w h K (fun _ => False) g.at c (g.ρ i) (g.ow i)) (sep:∀ i j x,i < g.n -> j < g.n -> g.ow i x -> g.ow j x -> i = j) (root:g.ρ 0 = a) (o:∀ x,own x ↔ ∃ i,i < g.n /\ g.ow i x)
noncomputable def PackN (w:World) (h:Heap):Nat -> List Cell -> Addr -> (Addr -> Prop) -> Prop
 | 0 => fun _ _ _ => False
 | k + 1 => PackC w h (PackN w h k)
noncomputable abbrev CellAt (b:Hb) (h:Heap) (U:Addr -> Prop) (R:Nat -> Value -> Prop):Cell -> Addr -> (Addr -> Prop) -> Prop:=CellW b.w h (PackN b.w h b.k) U R
section
variable {w:World} {b:Hb}
inductive Owned (o:Obj):Prop
 | d (es:Array DictEntry) (n:Nat) (e:o.data = .dict es n) | l (e:o.cls = .type "list") | r (r:Addr) (e:o.cls = .ref r)
inductive OwnEx (h:Heap) (x:Addr):Prop | mk (o:Obj) (e:h.get? x = some o) (q:Owned o)
theorem CellW.own_ex {h:Heap} {K:List Cell -> Addr -> (Addr -> Prop) -> Prop} (hK:∀ σ a own,K σ a own -> ∀ x,own x -> OwnEx h x) {U:Addr -> Prop} {R:Nat -> Value -> Prop} {c:Cell} {a:Addr} {own:Addr -> Prop} (e:CellW w h K U R c a own) (x:Addr) (hx:own x):OwnEx h x:=by
 cases c with
 | list vs => obtain ⟨items,⟨n,ho⟩,_,w⟩:=e; rw [(w x).mp hx]; exact ⟨_,ho,.l rfl⟩
 | dict kvs => obtain ⟨m,⟨o,es,ep,ho,_,hd,_⟩,_,w⟩:=e; rw [(w x).mp hx]; exact ⟨o,ho,.d _ _ hd⟩
 | tdict kvs => obtain ⟨m,⟨o,es,ep,ho,_,hd,_⟩,_,_,w⟩:=e; rw [(w x).mp hx]; exact ⟨o,ho,.d _ _ hd⟩
 | inst c fs =>
  obtain ⟨dx,m,ho,⟨o,es,ep,hd,hdd,_⟩,_,_,w⟩:=e
  rcases (w x).mp hx with rfl | rfl
  ·exact ⟨_,ho,.r _ rfl⟩
  ·exact ⟨o,hd,.d _ _ hdd⟩
 | pack σ => exact hK _ _ _ e x hx
theorem PackN.own_ex {h:Heap} {k:Nat}:∀ σ a own,PackN w h k σ a own -> ∀ x,own x -> OwnEx h x:=by
 induction k with
 | zero => exact fun _ _ _ e => e.elim
 | succ k ih =>
  intro σ a own e x hx
  obtain ⟨g,hn,_,hat,_,_,hw⟩:=e
  obtain ⟨i,hi,hix⟩:=(hw x).mp hx
  exact (hat i _ (List.getElem?_eq_getElem (hn ▸ hi))).own_ex ih x hix
theorem CellAt.own_ex {h:Heap} {U:Addr -> Prop} {R:Nat -> Value -> Prop} {c:Cell} {a:Addr} {own:Addr -> Prop} (e:CellAt b h U R c a own):∀ x,own x -> OwnEx h x:=CellW.own_ex PackN.own_ex e
section
variable {h h':Heap}
theorem ListC.mono {P P':List Value -> Prop} {a:Addr} {own:Addr -> Prop} (ho:∀ x o,own x -> h.get? x = some o -> h'.get? x = some o) (hp:∀ l,P l -> P' l) (e:ListC h P a own):ListC h' P' a own :=
 by obtain ⟨items,⟨n,h1⟩,h3,w⟩:=e; exact ⟨items,⟨n,ho a _ ((w a).mpr rfl) h1⟩,hp _ h3,w⟩
theorem DictC.mono {P P':List (Str × Value) -> Prop} {a:Addr} {own:Addr -> Prop} (ho:∀ x o,own x -> h.get? x = some o -> h'.get? x = some o) (hp:∀ l,P l -> P' l) (e:DictC w h P a own):DictC w h' P' a own :=
 by obtain ⟨m,⟨o,es,ep,h1,h2⟩,h3,w⟩:=e; exact ⟨m,⟨o,es,ep,ho a _ ((w a).mpr rfl) h1,h2⟩,hp _ h3,w⟩
theorem TDictC.mono (ht:∀ a items,PlainTup h a items -> PlainTup h' a items) {P P':List (List Str × Addr × Value) -> Prop} {a:Addr} {own:Addr -> Prop} (ho:∀ x o,own x -> h.get? x = some o -> h'.get? x = some o) (hp:∀ l,P l -> P' l) (e:TDictC w h P a own):TDictC w h' P' a own:=by
 obtain ⟨m,⟨o,es,ep,h1,h2,h3,h4,h5,h6⟩,h8,h7,w⟩:=e
 refine ⟨m,⟨o,es,ep,ho a o ((w a).mpr rfl) h1,h2,h3,h4,fun x hx => ?_,h6⟩,fun x hx => (h8 x hx).elim fun its q => ⟨its,ht _ _ q⟩,hp _ h7,w⟩
 obtain ⟨o',items,n,a1,a2,a3,a4⟩:=h5 x hx
 obtain ⟨its,n3,b0⟩:=h8 x hx
 cases a1.symm.trans b0
 obtain ⟨n2,b1⟩:=ht x.2.1 its ⟨n3,b0⟩
 cases (show Data.seq its n3 = Data.seq items n from a3)
 exact ⟨_,_,n2,b1,rfl,rfl,a4⟩
theorem InstC.mono {c:Addr} {P P':Str -> Option Value -> Prop} {a:Addr} {own:Addr -> Prop} (ho:∀ x o,own x -> h.get? x = some o -> h'.get? x = some o) (hp:∀ k x,P k x -> P' k x) (e:InstC h c P a own):InstC h' c P' a own :=
 by obtain ⟨dx,m,h1,⟨o',es,ep,h2,h2'⟩,h5,h6,w⟩:=e; exact ⟨dx,m,ho _ _ ((w _).mpr (.inl rfl)) h1,⟨o',es,ep,ho _ _ ((w _).mpr (.inr rfl)) h2,h2'⟩,h5,fun k => hp _ _ (h6 k),w⟩
theorem CellW.mono {K K':List Cell -> Addr -> (Addr -> Prop) -> Prop} {U U':Addr -> Prop} {R R':Nat -> Value -> Prop} {c:Cell} {a:Addr} {own:Addr -> Prop} (M:VMono h h' U U' R R') (ho:∀ x o,own x -> h.get? x = some o -> h'.get? x = some o)
  (hK:∀ σ,K σ a own -> K' σ a own) (e:CellW w h K U R c a own):CellW w h' K' U' R' c a own:=by
 have hv:∀ v x,VR h U R v x -> VR h' U' R' v x:=fun _ _ q => q.mono M
 cases c with
 | list vs => exact ListC.mono ho (fun _ q => q.mono M) e
 | dict kvs => exact DictC.mono ho (fun _ q => q.mono hv) e
 | tdict kvs => exact TDictC.mono M.t ho (fun _ q => q.mono hv) e
 | inst c fs => exact InstC.mono ho (fun _ _ q => q.mono hv) e
 | pack σ => exact hK σ e
theorem PackN.mono {k:Nat} (ht:∀ a items,PlainTup h a items -> PlainTup h' a items) (hg:∀ a i j k t u x,IsRange h a i j k t u x -> IsRange h' a i j k t u x):∀ σ a own,(∀ x o,own x -> h.get? x = some o -> h'.get? x = some o) -> PackN w h k σ a own -> PackN w h' k σ a own:=by
 induction k with
 | zero => exact fun _ _ _ _ e => e
 | succ k ih =>
  intro σ a own ho e
  obtain ⟨g,hn,h0,hat,hs,hr0,hw⟩:=e
  refine ⟨g,hn,h0,fun i c hi => ?_,hs,hr0,hw⟩
  have ho':=fun x o (hx:g.ow i x) => ho x o ((hw x).mpr ⟨i,hn ▸ (List.getElem?_eq_some_iff.mp hi).1,hx⟩)
  exact (hat i c hi).mono ⟨ht,hg,fun _ _ q => q.elim,fun _ _ q => q⟩ ho' fun σ => ih σ _ _ ho'
theorem CellAt.mono {U U':Addr -> Prop} {R R':Nat -> Value -> Prop} {c:Cell} {a:Addr} {own:Addr -> Prop} (M:VMono h h' U U' R R') (ho:∀ x o,own x -> h.get? x = some o -> h'.get? x = some o) (e:CellAt b h U R c a own):CellAt b h' U' R' c a own :=
 CellW.mono M ho (fun σ => PackN.mono M.t M.g σ _ _ ho) e
end
end
noncomputable def FrObj (o:Obj):Prop:=∃ es n,o.data = .dict es n
inductive FrAt (hb:Heap) (g:G) (h:Heap) (env:Env):Prop | mk (k:env.scope.kind ≠ .module) (L:Addr) (o:Obj) (e:env.frame = some L) (n:hb.get? L = none) (f:g.free L) (q:h.get? L = some o) (d:FrObj o)
noncomputable def FrOk (b:Hb) (g:G) (h:Heap):Prop:=∀ env ∈ b.envs,FrAt b.heap g h env
theorem FrOk.mono {b:Hb} {g g':G} {h h':Heap} (hk:∀ L o,g.free L -> h.get? L = some o -> FrObj o -> g'.free L /\ ∃ o',h'.get? L = some o' /\ FrObj o') (F:FrOk b g h):FrOk b g' h':=fun env he => by
 obtain ⟨a,L,o,b,c,d,e,f⟩:=F env he
 obtain ⟨d',o',e',f'⟩:=hk L o d e f
 exact ⟨a,L,o',b,c,d',e',f'⟩
structure Rel (b:Hb) (m:Ms):Prop where
 n:m.g.n = m.σ.length
 at_:∀ i c,m.σ[i]? = some c -> CellAt b m.s.heap m.g.free m.g.at c (m.g.ρ i) (m.g.ow i)
 sep:∀ i j x,i < m.g.n -> j < m.g.n -> m.g.ow i x -> m.g.ow j x -> i = j
 base:∀ a o,b.get? a = some o -> m.s.heap.get? a = some o
 ge:∀ i x,i < m.g.n -> m.g.ow i x -> b.get? x = none
 forb:∀ x,m.g.forb x -> ∃ o,m.s.heap.get? x = some o
 disj:∀ i x,i < m.g.n -> m.g.ow i x -> ¬ m.g.forb x
 ios:(sio m.s) = b.io
 fr:FrOk b m.g m.s.heap
noncomputable def Kept (h':Heap) (a:Addr) (o:Obj):Prop:=h'.get? a = some o \/ (FrObj o /\ ∃ sl,h'.get? a = some { o with slots:=sl })
theorem Kept.exact {h':Heap} {a:Addr} {o:Obj} (e:Kept h' a o) (hc:∀ es n,o.data ≠ .dict es n):h'.get? a = some o:=e.resolve_right fun ⟨⟨es,n,q⟩,_⟩ => hc es n q
inductive KData (h':Heap) (a:Addr) (o:Obj):Prop | mk (o':Obj) (e:h'.get? a = some o') (c:o'.cls = o.cls) (d:o'.data = o.data) (x:o'.dict = o.dict)
theorem Kept.data {h':Heap} {a:Addr} {o:Obj} (e:Kept h' a o):KData h' a o:=by
 rcases e with e | ⟨_,sl,e⟩
 ·exact ⟨o,e,rfl,rfl,rfl⟩
 ·exact ⟨_,e,rfl,rfl,rfl⟩
structure StepH (own:Addr -> Prop) (g:G) (h:Heap) (g':G) (h':Heap):Prop where
 n:g.n <= g'.n
 rho:∀ i,i < g.n -> g'.ρ i = g.ρ i
 forb:g'.forb = g.forb
 new:∀ i x,i < g'.n -> g'.ow i x -> (i < g.n /\ g.ow i x) \/ h.get? x = none
 keep:∀ a o,h.get? a = some o -> g.unow a -> ¬ own a -> Kept h' a o
 live:∀ a o,h.get? a = some o -> ∃ o',h'.get? a = some o'
 exact:∀ a o,h.get? a = some o -> g.forb a -> ¬ own a -> h'.get? a = some o
noncomputable abbrev Step (own:Addr -> Prop) (m m':Ms):Prop:=StepH own m.g m.s.heap m'.g m'.s.heap
noncomputable abbrev No:Addr -> Prop:=fun _ => False
noncomputable abbrev Grown (h h':Heap):Prop:=∀ a o,h.get? a = some o -> h'.get? a = some o
section
variable {own:Addr -> Prop} {g g' g'':G} {h h' h'':Heap} {b:Hb}
theorem StepH.grown (hk:Grown h h'):StepH own g h g h':=⟨Nat.le_refl _,fun _ _ => rfl,rfl,fun i x hi hx => .inl ⟨hi,hx⟩,fun a o e _ _ => .inl (hk a o e),fun a o e => ⟨o,hk a o e⟩,fun a o e _ _ => hk a o e⟩
theorem StepH.refl:StepH own g h g h:=StepH.grown fun _ _ e => e
theorem StepH.unow (S:StepH own g h g' h') {a:Addr} {o:Obj} (ha:h.get? a = some o) (hf:g.unow a):g'.unow a:=fun i hi hx => by
 rcases S.new i a hi hx with ⟨p,q⟩ | p
 ·exact hf i p q
 ·rw [ha] at p; cases p
theorem StepH.free (S:StepH own g h g' h') {a:Addr} {o:Obj} (ha:h.get? a = some o) (hf:g.free a):g'.free a:=⟨S.unow ha hf.1,by rw [S.forb]; exact hf.2⟩
theorem Kept.frObj {a:Addr} {o:Obj} (e:Kept h' a o) (f:FrObj o):∃ o',h'.get? a = some o' /\ FrObj o':=by
 rcases e with e | ⟨_,sl,e⟩
 ·exact ⟨o,e,f⟩
 ·exact ⟨_,e,f⟩
theorem FrOk.live (F:FrOk b g h) {D:Addr} (hD:h.get? D = none):∀ env ∈ b.envs,env.frame ≠ some D:=fun env he q => by
 obtain ⟨_,L,o,b,_,_,e,_⟩:=F env he
 rw [b] at q; cases q; rw [hD] at e; cases e
theorem FrOk.but {D:Addr} (hk:∀ a o,a ≠ D -> h.get? a = some o -> h'.get? a = some o) (hD:∀ env ∈ b.envs,env.frame ≠ some D) (F:FrOk b g h):FrOk b g h':=fun env he => by
 obtain ⟨a,L,o,b,c,d,e,f⟩:=F env he
 exact ⟨a,L,o,b,c,d,hk L o (fun q => hD env he (q ▸ b)) e,f⟩
theorem FrOk.byKind {D:Addr} (hk:∀ a o,a ≠ D -> h.get? a = some o -> h'.get? a = some o) {o:Obj} (ho:h.get? D = some o) (hn:∀ es n,o.data ≠ .dict es n) (F:FrOk b g h):FrOk b g h':=F.but hk fun env he q => by
 obtain ⟨_,L,o',b,_,_,e,es,n,f⟩:=F env he
 rw [b] at q; cases q; rw [ho] at e; cases e; exact hn _ _ f
theorem FrOk.byDict {D:Addr} (hk:∀ a o,a ≠ D -> h.get? a = some o -> h'.get? a = some o) (hd:∃ o',h'.get? D = some o' /\ FrObj o') (F:FrOk b g h):FrOk b g h':=F.mono fun L o hl e f => ⟨hl,(Classical.em (L = D)).elim (fun q => q ▸ hd) fun q => ⟨o,hk L o q e,f⟩⟩
theorem FrOk.step (S:StepH own g h g' h') (hf:∀ L o,own L -> h.get? L = some o -> FrObj o -> ∃ o',h'.get? L = some o' /\ FrObj o') (F:FrOk b g h):FrOk b g' h' :=
 F.mono fun L o hl e f => ⟨S.free e hl,(Classical.em (own L)).elim (fun q => hf L o q e f) fun q => (S.keep L o e hl.1 q).frObj f⟩
theorem FrOk.steps (S:StepH No g h g' h') (F:FrOk b g h):FrOk b g' h':=F.step S fun _ _ q => q.elim
theorem StepH.trans (S:StepH own g h g' h') (T:StepH own g' h' g'' h''):StepH own g h g'' h'':=by
 refine ⟨Nat.le_trans S.n T.n,fun i hi => (T.rho i (Nat.lt_of_lt_of_le hi S.n)).trans (S.rho i hi),T.forb.trans S.forb,fun i x hi hx => ?_,fun a o e hf hn => ?_,fun a o e => let ⟨o',e'⟩:=S.live a o e; T.live a o' e',fun a o e q n => T.exact a o (S.exact a o e q n) (by rw [S.forb]; exact q) n⟩
 ·rcases T.new i x hi hx with ⟨p,q⟩ | p
  ·exact S.new i x p q
  ·refine .inr ?_
   cases q:h.get? x with
   | none => rfl
   | some o => obtain ⟨o',e'⟩:=S.live x o q; rw [e'] at p; cases p
 ·rcases S.keep a o e hf hn with e1 | ⟨hc,sl,e1⟩
  ·exact T.keep a _ e1 (S.unow e hf) hn
  ·rcases T.keep a _ e1 (S.unow e hf) hn with e2 | ⟨_,sl',e2⟩
   ·exact .inr ⟨hc,sl,e2⟩
   ·exact .inr ⟨hc,sl',e2⟩
theorem StepH.weaken {own':Addr -> Prop} (S:StepH own g h g' h') (hw:∀ a o,h.get? a = some o -> own a -> own' a):StepH own' g h g' h' :=
 ⟨S.n,S.rho,S.forb,S.new,fun a o e hf hn => S.keep a o e hf fun q => hn (hw a o e q),S.live,fun a o e q n => S.exact a o e q fun z => n (hw a o e z)⟩
theorem StepH.wide (S:StepH No g h g' h'):StepH own g h g' h':=S.weaken fun _ _ _ q => q.elim
end
inductive Other (o:Obj):Prop
 | d (es:Array DictEntry) (n:Nat) (e:o.data = .dict es n) | c (v:Option Value) (e:o.data = .cell v) | k (t:o.cls ≠ .type "tuple") (l:o.cls ≠ .type "list") (r:o.cls ≠ .type "range")
theorem Other.tup {items:Array Value} {n:Nat} (h:Other { cls:=.type "tuple",data:=.seq items n }):False:=by
 cases h with
 | d _ _ e => cases e
 | c _ e => cases e
 | k t _ _ => exact t rfl
theorem Other.lst {items:Array Value} {n:Nat} (h:Other { cls:=.type "list",data:=.seq items n }):False:=by
 cases h with
 | d _ _ e => cases e
 | c _ e => cases e
 | k _ t _ => exact t rfl
theorem Other.rng {vs:Array Value} (h:Other { cls:=.type "range",data:=.fields vs }):False:=by
 cases h with
 | d _ _ e => cases e
 | c _ e => cases e
 | k _ _ t => exact t rfl
noncomputable def Plainly (own:Addr -> Prop) (h:Heap):Prop:=∀ a o,own a -> h.get? a = some o -> Other o
theorem Plainly.none {h:Heap}:Plainly No h:=fun _ _ q => q.elim
section
variable {b:Hb} {m m':Ms} {own:Addr -> Prop}
theorem Rel.get (R:Rel b m) {i:Nat} {c:Cell} (e:m.σ[i]? = some c):i < m.g.n:=by rw [R.n]; exact (List.getElem?_eq_some_iff.mp e).1
theorem Rel.own_ex (R:Rel b m) {i:Nat} {x:Addr} (hi:i < m.g.n) (hx:m.g.ow i x):OwnEx m.s.heap x :=
 (R.at_ i _ (List.getElem?_eq_getElem (R.n ▸ hi))).own_ex x hx
theorem Rel.no_own (R:Rel b m) {i:Nat} {x:Addr} (hi:i < m.g.n) (hx:m.g.ow i x) (e:m.s.heap.get? x = none) {P:Prop}:P:=by
 obtain ⟨o,q,_⟩:=R.own_ex hi hx; rw [e] at q; cases q
theorem Rel.tuple_unow (R:Rel b m) {a:Addr} {items:Array Value} (ht:PlainTup m.s.heap a items):m.g.unow a:=fun i hi hx => by
 obtain ⟨n,ho⟩:=ht
 obtain ⟨o',ho',hc'⟩:=R.own_ex hi hx
 rw [ho] at ho'; cases ho'
 cases hc' with
 | d _ _ e => cases e
 | l e => simp at e
 | r _ e => cases e
theorem Rel.range_unow (R:Rel b m) {a:Addr} {i j l:Int} {t u x:Tok} (ht:IsRange m.s.heap a i j l t u x):m.g.unow a:=fun n hi hx => by
 obtain ⟨o',ho',hc'⟩:=R.own_ex hi hx
 rw [show m.s.heap.get? a = some _ from ht] at ho'; cases ho'
 cases hc' with
 | d _ _ e => cases e
 | l e => simp at e
 | r _ e => cases e
theorem Rel.base_unow (R:Rel b m) {a:Addr} {o:Obj} (e:b.get? a = some o):m.g.unow a:=fun i hi hx => by
 have:=R.ge i a hi hx
 rw [e] at this; cases this
theorem Rel.hb_none (R:Rel b m) {a:Addr} (e:m.s.heap.get? a = none):b.get? a = none:=by
 cases q:b.get? a with
 | none => rfl
 | some o => have:=R.base a o q; rw [e] at this; cases this
theorem Rel.none_unow (R:Rel b m) {a:Addr} (e:m.s.heap.get? a = none):m.g.unow a:=fun _ hi hx => R.no_own hi hx e
theorem Rel.none_forb (R:Rel b m) {a:Addr} (e:m.s.heap.get? a = none):¬ m.g.forb a:=fun q => by obtain ⟨o,z⟩:=R.forb a q; rw [e] at z; cases z
theorem Rel.none_free (R:Rel b m) {a:Addr} (e:m.s.heap.get? a = none):m.g.free a:=⟨R.none_unow e,R.none_forb e⟩
theorem Step.mono (S:Step own m m') (R:Rel b m) (P:Plainly own m.s.heap):VMono m.s.heap m'.s.heap m.g.free m'.g.free m.g.at m'.g.at where
 t:=fun a items ht => by
  obtain ⟨n,ho⟩:=id ht
  exact ⟨n,(S.keep a _ ho (R.tuple_unow ht) fun q => (P a _ q ho).tup).exact nofun⟩
 g:=fun a i j k t u x ht => (S.keep a _ ht (R.range_unow ht) fun q => (P a _ q ht).rng).exact nofun
 l:=fun a items hf ⟨n,ho⟩ => ⟨S.free ho hf,n,(S.keep a _ ho hf.1 fun q => (P a _ q ho).lst).exact nofun⟩
 r:=fun i v e => by obtain ⟨hi⟩:=e; exact S.rho i hi ▸ ⟨Nat.lt_of_lt_of_le hi S.n⟩
theorem Step.vr (S:Step No m m') (R:Rel b m) {v:V} {x:Value} (e:VM m v x):VM m' v x:=e.mono (Step.mono S R Plainly.none)
theorem Step.vrs (S:Step No m m') (R:Rel b m) {v:List V} {x:List Value} (e:VMs m v x):VMs m' v x:=e.mono (Step.mono S R Plainly.none)
theorem Rel.keep (R:Rel b m) {s':Shared} (io:(sio s') = (sio m.s)) (S:StepH own m.g m.s.heap m.g s'.heap) (P:Plainly own m.s.heap) (hk:∀ i x o,i < m.g.n -> m.g.ow i x -> m.s.heap.get? x = some o -> s'.heap.get? x = some o) (hb:∀ a o,b.get? a = some o -> m.s.heap.get? a = some o -> s'.heap.get? a = some o) (hf:∀ L o,own L -> m.s.heap.get? L = some o -> FrObj o -> ∃ o',s'.heap.get? L = some o' /\ FrObj o'):Rel b ⟨m.σ,m.g,s'⟩ :=
 ⟨R.n,fun i c e => (R.at_ i c e).mono (Step.mono (m':=⟨m.σ,m.g,s'⟩) S R P) (fun x o => hk i x o (R.get e)),R.sep,fun a o e => hb a o e (R.base a o e),R.ge,fun x hx => (let ⟨o,e⟩:=R.forb x hx; S.live x o e),R.disj,io.trans R.ios,R.fr.step S hf⟩
theorem Rel.grown (R:Rel b m) {s':Shared} (io:(sio s') = (sio m.s)) (hk:Grown m.s.heap s'.heap):Rel b ⟨m.σ,m.g,s'⟩ :=
 R.keep io (StepH.grown (own:=No) hk) Plainly.none (fun _ x o _ _ e => hk x o e) (fun a o _ e => hk a o e) fun _ _ q => q.elim
end
noncomputable def OwnF (env:Env) (a:Addr):Prop:=a = env.locals \/ ∃ x,env.cells.lookup x = some a
structure EnvOk (env:Env):Prop where
 kind:env.scope.kind = .function
 glob:env.globals = mainGlobals
 bi:env.builtins = builtinsNs
 apart:∀ x ca,env.cells.lookup x = some ca -> ca ≠ env.locals
 inj:∀ x y ca,env.cells.lookup x = some ca -> env.cells.lookup y = some ca -> x = y
inductive NsR (env:Env) (L:Str -> V -> Prop) (m:Ms):Prop | mk (f:Str -> Option Value) (n:m.s.heap.Ns env.locals f) (r:∀ x v,L x v -> env.kindOf x = some .local -> ∃ v',f x = some v' /\ VM m v v')
inductive CelR (env:Env) (L:Str -> V -> Prop) (m:Ms) (x:Str):Prop | mk (ca:Addr) (v:Option Value) (l:env.cells.lookup x = some ca) (c:m.s.heap.IsCell ca v) (r:∀ u,L x u -> ∃ v',v = some v' /\ VM m u v')
structure FRL (b:Hb) (env:Env) (L:Str -> V -> Prop) (m:Ms):Prop where
 st:EnvOk env
 ns:NsR env L m
 cells:∀ x,env.kindOf x = some .cell \/ env.kindOf x = some .free -> CelR env L m x
 ex:∀ x ca,env.cells.lookup x = some ca -> ∃ v,m.s.heap.IsCell ca v
 unow:∀ a,OwnF env a -> m.g.free a /\ b.get? a = none
 names:∀ x v,L x v -> env.kindOf x ≠ some .globalImplicit
section
variable {b:Hb} {env:Env} {L L':Str -> V -> Prop} {m m':Ms}
theorem FRL.plainly (F:FRL b env L m):Plainly (OwnF env) m.s.heap:=fun a o ha e => by
 rcases ha with rfl | ⟨x,hx⟩
 ·obtain ⟨_,⟨o',es,ep,e',hd,_⟩,_⟩:=F.ns
  rw [e] at e'; cases e'
  exact .d _ _ hd
 ·obtain ⟨v,o',e',hd⟩:=F.ex x a hx
  rw [e] at e'; cases e'
  exact .c _ hd
theorem FRL.own_some (F:FRL b env L m) {a:Addr} (ha:OwnF env a):∃ o,m.s.heap.get? a = some o:=by
 rcases ha with rfl | ⟨x,hx⟩
 ·obtain ⟨_,⟨o,_,_,e,_⟩,_⟩:=F.ns; exact ⟨o,e⟩
 ·obtain ⟨v,o,e,_⟩:=F.ex x a hx; exact ⟨o,e⟩
theorem Kept.cell {h h':Heap} {a:Addr} {v:Option Value} (K:∀ o,h.get? a = some o -> Kept h' a o) (e:h.IsCell a v):h'.IsCell a v:=by
 obtain ⟨o,e1,e2⟩:=e
 obtain ⟨o',e',_,hd',_⟩:=(K o e1).data
 exact ⟨o',e',hd'.trans e2⟩
theorem Kept.ns {h h':Heap} {a:Addr} {f:Str -> Option Value} (K:∀ o,h.get? a = some o -> Kept h' a o) (e:h.Ns a f):h'.Ns a f:=by
 obtain ⟨o,es,ep,e1,hd,hk⟩:=e
 obtain ⟨o',e',_,hd',_⟩:=(K o e1).data
 exact ⟨o',es,ep,e',hd'.trans hd,hk⟩
theorem FRL.mono (F:FRL b env L m) (hk:∀ a o,OwnF env a -> m.s.heap.get? a = some o -> Kept m'.s.heap a o) (hv:∀ v x,VM m v x -> VM m' v x) (hf:∀ a o,m.s.heap.get? a = some o -> m.g.free a -> m'.g.free a) (hl:∀ x u,L' x u -> L x u):FRL b env L' m':=by
 refine ⟨F.st,?_,fun x hx => ?_,fun x ca hx => (F.ex x ca hx).elim fun v e => ⟨v,Kept.cell (fun o => hk ca o (.inr ⟨x,hx⟩)) e⟩,fun a ha => ⟨(F.own_some ha).elim fun o e => hf a o e (F.unow a ha).1,(F.unow a ha).2⟩,fun x v hx => F.names x v (hl _ _ hx)⟩
 ·obtain ⟨f,n,r⟩:=F.ns
  exact ⟨f,Kept.ns (fun o => hk _ o (.inl rfl)) n,fun x v hx hl' => (r x v (hl _ _ hx) hl').elim fun v' q => ⟨v',q.1,hv _ _ q.2⟩⟩
 ·obtain ⟨ca,v,e1,e2,e3⟩:=F.cells x hx
  exact ⟨ca,v,e1,Kept.cell (fun o => hk ca o (.inr ⟨x,e1⟩)) e2,fun u hu => (e3 u (hl _ _ hu)).elim fun v' q => ⟨v',q.1,hv _ _ q.2⟩⟩
theorem FRL.drop (F:FRL b env L m) (hl:∀ x u,L' x u -> L x u):FRL b env L' m:=F.mono (fun _ _ _ e => .inl e) (fun _ _ e => e) (fun _ _ _ e => e) hl
theorem FRL.step (F:FRL b env L m) (R:Rel b m) (S:Step No m m'):FRL b env L m' :=
 F.mono (fun a o ha e => S.keep a o e (F.unow a ha).1.1 id) (fun _ _ e => Step.vr S R e) (fun _ _ e f => S.free e f) fun _ _ e => e
end
noncomputable def hold (ns:List Str) (fr:Fr) (x:Str) (v:V):Prop:=∃ i,ns[i]? = some x /\ getF fr i = some v
structure BOk (b:Hb) (n:Nat) (A:Around):Prop where
 handled:A.handled = none
 frames:A.frames = some b.envs
 depth:A.depth + 4 * n + 2 < 900
 units:A.units + 16 * n + 112 < cLine
structure AOk (b:Hb) (n:Nat) (A:Around):Prop where
 handled:A.handled = none
 frames:A.frames = some b.envs
 depth:A.depth + 4 * n < 900
 units:A.units + 16 * n + 100 < cLine
inductive TrAt (B:Heap) (l:List Env) (ea c:Addr) (h:Heap):Prop
 | made (oe:Obj) (vs:Array Value) (a0:Value) (e:h.get? ea = some oe) (k:oe.cls = .ref c) (d:oe.data = .fields vs) (h0:vs[0]? = some a0) (h1:vs[1]? = some .none)
 | way (a0:Value) (t:h.TracedAtW B ea (.ref c) a0 .none)
 | held (a0:Value) (env:Env) (r:List Env) (L:Addr) (e:l = env :: r) (f:env.frame = some L) (t:h.TracedAtW B ea (.ref c) a0 (rawInt L))
inductive FlyX (hb:Heap) (fr:Option (List Env)) (c:Addr) (g:G) (ho h:Heap):Value -> Prop
 | mk (l:List Env) (ea:Addr) (B:Heap) (f:fr = some l) (s:B.StaysIn h) (n:B.get? ea = none) (ff:h.FunFrames B l) (t:TrAt B l ea c h) (u:ho.UpToSlots h) (w:∀ a o,ho.get? a = some o -> B.get? a = some o \/ (g.free a /\ hb.get? a = none /\ FrObj o)):FlyX hb fr c g ho h (.ref ea)
structure Wd where
 b:Hb
 n:Nat
 K:Frag
 cx:Cx
 env:Env
 ns:List Str
 A:Around
 O:Ms
structure At (W:Wd) (fr:Fr) (m:Ms):Prop where
 R:Rel W.b m
 F:FRL W.b W.env (hold W.ns fr) m
 t:1 <= m.s.toks
 S:Step (OwnF W.env) W.O m
inductive OK (b:Hb) (Q:V -> St -> Prop) (m:Ms) (v':Value) (s':Shared):Prop
 | mk (v:V) (σ:St) (g:G) (q:Q v σ) (R:Rel b ⟨σ,g,s'⟩) (e:VM ⟨σ,g,s'⟩ v v') (S:Step No m ⟨σ,g,s'⟩)
inductive EXC (b:Hb) (A:Around) (X:Addr -> St -> Prop) (m:Ms) (e:Value) (s':Shared):Prop
 | mk (c:Addr) (σ:St) (g:G) (ho:Heap) (x:X c σ) (R:Rel b ⟨σ,g,{ s' with heap:=ho }⟩) (S:Step No m ⟨σ,g,{ s' with heap:=ho }⟩) (f:FlyX b.heap A.frames c g ho s'.heap e)
inductive EX (W:Wd) (X:KX) (e:Value) (s':Shared):Prop
 | mk (c:Addr) (fr:Fr) (σ:St) (g:G) (ho:Heap) (x:X c fr σ) (Z:At W fr ⟨σ,g,{ s' with heap:=ho }⟩) (f:FlyX W.b.heap W.A.frames c g ho s'.heap e)
section
variable {W:Wd} {P:PX} {fr:Fr} {m:Ms} {K:KE} {E:Value -> Shared -> Prop}
theorem At.lift (Z:At W fr m) {X:KX} {e:Value} {s':Shared} (x:EXC W.b W.A (fun c σ => X c fr σ) m e s') (t:1 <= s'.toks):EX W X e s':=by
 obtain ⟨c,σ,g,ho,x,R,S,f⟩:=x
 exact ⟨c,fr,σ,g,ho,x,⟨R,Z.F.step Z.R S,t,Z.S.trans S.wide⟩,f⟩
theorem At.step (Z:At W fr m) {m':Ms} (R:Rel W.b m') (S:Step No m m') (t:1 <= m'.s.toks):At W fr m':=⟨R,Z.F.step Z.R S,t,Z.S.trans S.wide⟩
theorem At.toks (Z:At W fr m) {t:Nat} (h:1 <= t):At W fr ⟨m.σ,m.g,{ m.s with toks:=t }⟩:=⟨Z.R.grown rfl fun _ _ e => e,Z.F.mono (fun _ _ _ e => .inl e) (fun _ _ e => e) (fun _ _ _ e => e) fun _ _ e => e,h,Z.S⟩
noncomputable def TE (W:Wd) (t:Sem Value) (c:CE):Prop:=∀ (P:PX) (fr:Fr) (K:KE) (m:Ms),At W fr m -> ev c ⟨W.cx,P⟩ fr m.σ K -> wpAny W.b.M W.A t (OK W.b (fun v σ => K v ⟨W.cx,P⟩ fr σ) m) (EX W P.exc) m.s
inductive BK (W:Wd) (fr:Fr) (Q:Bool -> St -> Prop) (m:Ms) (c:Bool) (s':Shared):Prop | mk (σ:St) (g:G) (q:Q c σ) (S:Step No m ⟨σ,g,s'⟩) (Z:At W fr ⟨σ,g,s'⟩)
noncomputable def TB (W:Wd) (t:Sem Bool) (c:CE):Prop:=∀ (P:PX) (fr:Fr) (K:Bool -> EE -> Fr -> St -> Prop) (m:Ms),At W fr m -> ev c ⟨W.cx,P⟩ fr m.σ (fun v e fr σ => tK v fun b => K b e fr σ) -> wpAny W.b.M W.A t (BK W fr (fun b σ => K b ⟨W.cx,P⟩ fr σ) m) (EX W P.exc) m.s
inductive SRet (W:Wd) (Q:V -> St -> Prop) (v':Value) (s':Shared):Prop | mk (v:V) (fr:Fr) (σ:St) (g:G) (q:Q v σ) (Z:At W fr ⟨σ,g,s'⟩) (e:VM ⟨σ,g,s'⟩ v v')
inductive SNext (W:Wd) (Q:Fr -> St -> Prop) (s':Shared):Prop | mk (fr:Fr) (σ:St) (g:G) (q:Q fr σ) (Z:At W fr ⟨σ,g,s'⟩)
noncomputable def SOK (W:Wd) (Q:V -> St -> Prop) (N:Fr -> St -> Prop):Flow -> Shared -> Prop
 | .next => SNext W N
 | .ret v' => SRet W Q v'
 | _ => fun _ => False
noncomputable def TS (W:Wd) (t:Sem Flow) (c:SC):Prop:=∀ (P:PX) (fr:Fr) (N:KN) (m:Ms),At W fr m -> c ⟨W.cx,P⟩ fr m.σ N -> wpAny W.b.M W.A t (SOK W P.ret fun fr σ => N ⟨W.cx,P⟩ fr σ) (EX W P.exc) m.s
theorem OK.run {Q:V -> St -> Prop} {v':Value} {s':Shared} (x:OK W.b Q m v' s') (Z:At W fr m) (t:1 <= s'.toks) {G:Prop} (h:∀ v m',m'.s = s' -> Q v m'.σ -> VM m' v v' -> Step No m m' -> At W fr m' -> G):G:=by
 obtain ⟨v,σ,g,q,R,e,S⟩:=x
 exact h v ⟨σ,g,s'⟩ rfl q e S (Z.step R S t)
theorem TE.run {t:Sem Value} {c:CE} (T:TE W t c) (Z:At W fr m) (q:ev c ⟨W.cx,P⟩ fr m.σ K) {Q:Value -> Shared -> Prop} (h:∀ v v' m',K v ⟨W.cx,P⟩ fr m'.σ -> VM m' v v' -> Step No m m' -> At W fr m' -> Q v' m'.s):wpAny W.b.M W.A t Q (EX W P.exc) m.s :=
 wpAny_with_toks Z.t (wpAny_mono (T P fr K m Z q) (fun v' s' x t => x.run Z t fun v m' e q r S Z' => e ▸ h v v' m' q r S Z') fun _ _ x _ => x)
theorem TB.run {t:Sem Bool} {c:CE} (T:TB W t c) (Z:At W fr m) {K:Bool -> EE -> Fr -> St -> Prop} (q:ev c ⟨W.cx,P⟩ fr m.σ (fun v e fr σ => tK v fun b => K b e fr σ)) {Q:Bool -> Shared -> Prop} (h:∀ c m',K c ⟨W.cx,P⟩ fr m'.σ -> Step No m m' -> At W fr m' -> Q c m'.s):wpAny W.b.M W.A t Q (EX W P.exc) m.s :=
 wpAny_mono (T P fr K m Z q) (fun c s' x => by obtain ⟨σ,g,q,S,Z'⟩:=x; exact h c ⟨σ,g,s'⟩ q S Z') fun _ _ x => x
theorem TS.run {t:Sem Flow} {c:SC} (T:TS W t c) (Z:At W fr m) {N:KN} (q:c ⟨W.cx,P⟩ fr m.σ N) {Q:Flow -> Shared -> Prop} (hn:∀ fr m',N ⟨W.cx,P⟩ fr m'.σ -> At W fr m' -> Q .next m'.s) (hr:∀ v v' fr m',P.ret v m'.σ -> VM m' v v' -> At W fr m' -> Q (.ret v') m'.s):wpAny W.b.M W.A t Q (EX W P.exc) m.s :=
 wpAny_mono (T P fr N m Z q) (fun f s' x => by
  cases f with
  | next => obtain ⟨fr,σ,g,q,Z'⟩:=x; exact hn fr ⟨σ,g,s'⟩ q Z'
  | ret v' => obtain ⟨v,fr,σ,g,q,Z',e⟩:=x; exact hr v v' fr ⟨σ,g,s'⟩ q e Z'
  | _ => exact x.elim) fun _ _ x => x
theorem EX.no {X:KX} (hX:∀ c fr σ,¬ X c fr σ) {e:Value} {s':Shared} {Z:Prop} (q:EX W X e s'):Z:=by obtain ⟨_,_,_,_,_,x,_⟩:=q; exact (hX _ _ _ x).elim
end
theorem get_size (h:Heap):h.get? h.objs.size = none:=by
 cases e:h.get? h.objs.size with
 | none => rfl
 | some o => exact absurd (Heap.lt_size e) (Nat.lt_irrefl _)
theorem none_ge {h:Heap} {a:Addr} (e:h.objs.size <= a):h.get? a = none:=by
 cases q:h.get? a with
 | none => rfl
 | some o => exact absurd (Heap.lt_size q) (Nat.not_lt.mpr e)
theorem grown_push {h:Heap} {o:Obj}:Grown h (h.push o):=fun _ _ e => Heap.get?_push_of_some _ e
section
variable {b:Hb} {m:Ms} {Q:V -> St -> Prop} {s':Shared} {v:V} {v':Value}
theorem VM.grown {σ:St} (hk:Grown m.s.heap s'.heap) (x:VM m v v'):VM ⟨σ,m.g,s'⟩ v v':=x.mono (.grown hk (fun _ _ _ u => u) fun _ _ e => e)
theorem VMs.grown {σ:St} {vs:List V} {l:List Value} (hk:Grown m.s.heap s'.heap) (x:VMs m vs l):VMs ⟨σ,m.g,s'⟩ vs l:=x.mono (.grown hk (fun _ _ _ u => u) fun _ _ e => e)
theorem ok_grown (io:(sio s') = (sio m.s)) (hk:Grown m.s.heap s'.heap) (q:Q v m.σ) (R:Rel b m) (x:VM ⟨m.σ,m.g,s'⟩ v v'):OK b Q m v' s':=⟨v,m.σ,m.g,q,R.grown io hk,x,.grown hk⟩
theorem ok_at {t:Nat} (q:Q v m.σ) (R:Rel b m) (x:VM m v v'):OK b Q m v' { m.s with toks:=t }:=ok_grown rfl (fun _ _ e => e) q R x
theorem ok_push {t:Nat} {o:Obj} (q:Q v m.σ) (R:Rel b m) (x:VM ⟨m.σ,m.g,{ m.s with heap:=m.s.heap.push o,toks:=t }⟩ v v'):OK b Q m v' { m.s with heap:=m.s.heap.push o,toks:=t }:=ok_grown rfl grown_push q R x
noncomputable def G.add (g:G) (a:Addr) (own:Addr -> Prop):G:=⟨g.n + 1,fun i => if i = g.n then a else g.ρ i,fun i x => if i = g.n then own x else g.ow i x,g.forb⟩
theorem G.add_ow {g:G} {a:Addr} {own:Addr -> Prop} {i:Nat} {x:Addr} (hi:i < (g.add a own).n) (h:(g.add a own).ow i x):(i = g.n /\ own x) \/ (i < g.n /\ g.ow i x):=by
 have h:(if i = g.n then own x else g.ow i x):=h
 by_cases q:i = g.n
 ·rw [if_pos q] at h; exact .inl ⟨q,h⟩
 ·rw [if_neg q] at h; exact .inr ⟨Nat.lt_of_le_of_ne (Nat.le_of_lt_succ hi) q,h⟩
theorem G.add_lt {g:G} {a:Addr} {own:Addr -> Prop} {i:Nat} (hi:i < g.n):(g.add a own).ρ i = g.ρ i /\ (g.add a own).ow i = g.ow i:=⟨if_neg (Nat.ne_of_lt hi),funext fun _ => if_neg (Nat.ne_of_lt hi)⟩
theorem G.add_at {g:G} {a:Addr} {own:Addr -> Prop} {i:Nat} {v:Value} (e:g.at i v):(g.add a own).at i v:=by
 obtain ⟨h⟩:=e
 exact (G.add_lt h).1 ▸ ⟨Nat.lt_succ_of_lt h⟩
theorem G.add_new {g:G} {a:Addr} {own:Addr -> Prop}:(g.add a own).at g.n (.ref a):=by
 have h:(g.add a own).ρ g.n = a:=if_pos rfl
 have:=AtR.mk (n:=(g.add a own).n) (ρ:=(g.add a own).ρ) (i:=g.n) (Nat.lt_succ_self _)
 rwa [h] at this
theorem step_add {own':Addr -> Prop} {g:G} {h h':Heap} {a:Addr} {own:Addr -> Prop} (hk:Grown h h') (ho:∀ x,own x -> h.get? x = none):StepH own' g h (g.add a own) h':=by
 refine ⟨Nat.le_succ _,fun i hi => (G.add_lt hi).1,rfl,fun i x hi hix => ?_,fun a o e _ _ => .inl (hk a o e),fun a o e => ⟨o,hk a o e⟩,fun a o e _ _ => hk a o e⟩
 rcases G.add_ow hi hix with ⟨_,q⟩ | q
 ·exact .inr (ho x q)
 ·exact .inl q
theorem Rel.add (R:Rel b m) {c:Cell} {a:Addr} {own:Addr -> Prop} (io:(sio s') = (sio m.s)) (hk:Grown m.s.heap s'.heap) (ho:∀ x,own x -> m.s.heap.get? x = none) (hc:CellAt b s'.heap (m.g.add a own).free (m.g.add a own).at c a own):Rel b ⟨m.σ ++ [c],m.g.add a own,s'⟩:=by
 have S:StepH No m.g m.s.heap (m.g.add a own) s'.heap:=step_add hk ho
 refine ⟨(congrArg (· + 1) R.n).trans (List.length_append (as:=m.σ) (bs:=[c])).symm,fun i c' e => ?_,fun i j x hi hj hix hjx => ?_,fun a o e => hk a o (R.base a o e),fun i x hi hix => ?_,fun x hx => (let ⟨o,e⟩:=R.forb x hx; S.live x o e),fun i x hi hix hq => ?_,io.trans R.ios,R.fr.steps S⟩
 ·rcases Nat.lt_or_ge i m.σ.length with hi | hi
  ·have e:(m.σ ++ [c])[i]? = some c':=e
   rw [List.getElem?_append_left hi] at e
   have z:=(R.at_ i c' e).mono (Step.mono (m':=⟨m.σ,m.g.add a own,s'⟩) S R Plainly.none) fun x o _ e => hk x o e
   have q:=G.add_lt (a:=a) (own:=own) (R.n ▸ hi:i < m.g.n)
   exact q.1 ▸ q.2 ▸ z
  ·have hl:i < m.σ.length + 1:=by have:=(List.getElem?_eq_some_iff.mp e).1; rwa [List.length_append] at this
   have hi:i = m.g.n:=(Nat.le_antisymm (Nat.le_of_lt_succ hl) hi).trans R.n.symm
   subst hi
   have e:(m.σ ++ [c])[m.g.n]? = some c':=e
   rw [R.n,List.getElem?_append_right (Nat.le_refl _),Nat.sub_self] at e
   cases e
   have q1:(m.g.add a own).ρ m.g.n = a:=if_pos rfl
   have q2:(m.g.add a own).ow m.g.n = own:=funext fun _ => if_pos rfl
   exact q1.symm ▸ q2.symm ▸ hc
 ·rcases G.add_ow hi hix with ⟨p,p1⟩ | ⟨p,p1⟩ <;> rcases G.add_ow hj hjx with ⟨q,q1⟩ | ⟨q,q1⟩
  ·exact p.trans q.symm
  ·exact R.no_own q q1 (ho x p1)
  ·exact R.no_own p p1 (ho x q1)
  ·exact R.sep i j x p q p1 q1
 ·rcases G.add_ow hi hix with ⟨_,q⟩ | ⟨q,q1⟩
  ·exact R.hb_none (ho x q)
  ·exact R.ge i x q q1
 ·rcases G.add_ow hi hix with ⟨_,q⟩ | ⟨q,q1⟩
  ·exact R.none_forb (ho x q) hq
  ·exact R.disj i x q q1 hq
noncomputable def G.put (g:G) (i:Nat) (own:Addr -> Prop):G:=⟨g.n,g.ρ,fun j x => if j = i then own x else g.ow j x,g.forb⟩
theorem G.put_ow {g:G} {i j:Nat} {own:Addr -> Prop} {x:Addr} (h:(g.put i own).ow j x):(j = i /\ own x) \/ (j ≠ i /\ g.ow j x):=by
 have h:(if j = i then own x else g.ow j x):=h
 by_cases q:j = i
 ·rw [if_pos q] at h; exact .inl ⟨q,h⟩
 ·rw [if_neg q] at h; exact .inr ⟨q,h⟩
theorem step_set (R:Rel b m) {h':Heap} {i:Nat} (hi:i < m.g.n) {own:Addr -> Prop} (hk:∀ x o,¬ m.g.ow i x -> m.s.heap.get? x = some o -> h'.get? x = some o) (hz:∀ x o,m.g.ow i x -> m.s.heap.get? x = some o -> ∃ o',h'.get? x = some o') (ho:∀ x,own x -> m.g.ow i x \/ m.s.heap.get? x = none):StepH No m.g m.s.heap (m.g.put i own) h':=by
 refine ⟨Nat.le_refl _,fun j hj => rfl,rfl,fun j x hj hjx => ?_,fun a o e hu _ => .inl (hk a o (hu i hi) e),fun a o e => (Classical.em (m.g.ow i a)).elim (fun q => hz a o q e) fun q => ⟨o,hk a o q e⟩,fun a o e hq _ => hk a o (fun z => R.disj i a hi z hq) e⟩
 rcases G.put_ow hjx with ⟨q,q1⟩ | ⟨_,q⟩
 ·exact (ho x q1).imp (fun p => ⟨hj,q ▸ p⟩) id
 ·exact .inl ⟨hj,q⟩
theorem Rel.setG (R:Rel b m) {i:Nat} (hi:i < m.g.n) {c:Cell} {own:Addr -> Prop} (io:(sio s') = (sio m.s)) (hb:∀ a o,b.get? a = some o -> s'.heap.get? a = some o) (hk:∀ j x o,j < m.g.n -> j ≠ i -> m.g.ow j x -> m.s.heap.get? x = some o -> s'.heap.get? x = some o) (S:StepH No m.g m.s.heap (m.g.put i own) s'.heap)
  (ho:∀ x,own x -> m.g.ow i x \/ m.s.heap.get? x = none) (hc:CellAt b s'.heap (m.g.put i own).free (m.g.put i own).at c (m.g.ρ i) own):Rel b ⟨m.σ.set i c,m.g.put i own,s'⟩:=by
 refine ⟨R.n.trans List.length_set.symm,fun j c' e => ?_,fun j l x hj hl hjx hlx => ?_,hb,fun j x hj hjx => ?_,fun x hx => (let ⟨o,e⟩:=R.forb x hx; S.live x o e),fun j x hj hjx hq => ?_,io.trans R.ios,R.fr.steps S⟩
 ·have e:(m.σ.set i c)[j]? = some c':=e
  by_cases q:j = i
  ·subst q
   rw [List.getElem?_set_self (by rw [<- R.n]; exact hi)] at e
   cases e
   have:(m.g.put j own).ow j = own:=funext fun x => if_pos rfl
   exact this.symm ▸ hc
  ·rw [List.getElem?_set_ne (Ne.symm q)] at e
   have hj:j < m.g.n:=R.get e
   have:(m.g.put i own).ow j = m.g.ow j:=funext fun x => if_neg q
   exact this.symm ▸ (R.at_ j c' e).mono (Step.mono (m':=⟨m.σ,m.g.put i own,s'⟩) S R Plainly.none) fun x o hx e => hk j x o hj q hx e
 ·rcases G.put_ow hjx with ⟨p,p1⟩ | ⟨p,p1⟩ <;> rcases G.put_ow hlx with ⟨q,q1⟩ | ⟨q,q1⟩
  ·exact p.trans q.symm
  ·exact (ho x p1).elim (fun y => p.trans (R.sep i l x hi hl y q1)) fun y => R.no_own hl q1 y
  ·exact (ho x q1).elim (fun y => (R.sep j i x hj hi p1 y).trans q.symm) fun y => R.no_own hj p1 y
  ·exact R.sep j l x hj hl p1 q1
 ·rcases G.put_ow hjx with ⟨q,q1⟩ | ⟨_,q⟩
  ·exact (ho x q1).elim (R.ge i x hi) R.hb_none
  ·exact R.ge j x hj q
 ·rcases G.put_ow hjx with ⟨q,q1⟩ | ⟨_,q⟩
  ·exact (ho x q1).elim (fun y => R.disj i x hi y hq) fun y => R.none_forb y hq
  ·exact R.disj j x hj q hq
theorem Rel.set (R:Rel b m) {i:Nat} (hi:i < m.g.n) {c:Cell} {own:Addr -> Prop} (io:(sio s') = (sio m.s)) (hk:∀ x o,¬ m.g.ow i x -> m.s.heap.get? x = some o -> s'.heap.get? x = some o) (S:StepH No m.g m.s.heap (m.g.put i own) s'.heap)
  (ho:∀ x,own x -> m.g.ow i x \/ m.s.heap.get? x = none) (hc:CellAt b s'.heap (m.g.put i own).free (m.g.put i own).at c (m.g.ρ i) own):Rel b ⟨m.σ.set i c,m.g.put i own,s'⟩ :=
 R.setG hi io (fun a o e => hk a o (R.base_unow e i hi) (R.base a o e)) (fun j x o hj q hx e => hk x o (fun p => q (R.sep j i x hj hi hx p)) e) S ho hc
theorem okL_false {l:List V} {σ σ':St} {v:V} (q:okL false l σ = .ok v σ'):l.length <= big /\ .lst l = v /\ σ = σ':=by
 unfold okL at q
 by_cases c:l.length <= big
 ·rw [if_pos c] at q; cases q; exact ⟨c,rfl,rfl⟩
 ·rw [if_neg c] at q; cases q
theorem okL_true {l:List V} {σ σ':St} {v:V} (q:okL true l σ = .ok v σ'):l.length <= big /\ .ref σ.length = v /\ σ ++ [.list l] = σ':=by
 unfold okL at q
 by_cases c:l.length <= big
 ·rw [if_pos c] at q; cases q; exact ⟨c,rfl,rfl⟩
 ·rw [if_neg c] at q; cases q
theorem okL_len {mk:Bool} {l:List V} {σ σ':St} {v:V} (q:okL mk l σ = .ok v σ'):l.length <= big:=by
 cases mk with
 | false => exact (okL_false q).1
 | true => exact (okL_true q).1
theorem ok_cell {c:Cell} (io:(sio s') = (sio m.s)) (q:Q (.ref m.σ.length) (m.σ ++ [c])) (R:Rel b m) (hk:Grown m.s.heap s'.heap) {a:Addr} {own:Addr -> Prop} (ho:∀ x,own x -> m.s.heap.get? x = none)
  (hc:StepH No m.g m.s.heap (m.g.add a own) s'.heap -> CellAt b s'.heap (m.g.add a own).free (m.g.add a own).at c a own):OK b Q m (.ref a) s' :=
 ⟨.ref m.σ.length,_,_,q,R.add io hk ho (hc (step_add hk ho)),R.n ▸ G.add_new,step_add hk ho⟩
theorem is_size {h:Heap} (x:Addr) (hx:x = h.objs.size):h.get? x = none:=hx ▸ get_size h
theorem ok_newLat {mk:Bool} {l:List V} {vs:List Value} {σ':St} (q:okL mk l m.σ = .ok v σ') (hq:Q v σ') (io:(sio s') = (sio m.s)) (R:Rel b m) (x:VMs m l vs) (hk:Grown m.s.heap s'.heap) (e1:s'.heap.PlainList m.s.heap.objs.size vs.toArray):OK b Q m (.ref m.s.heap.objs.size) s':=by
 cases mk with
 | false =>
  obtain ⟨_,rfl,rfl⟩:=okL_false q
  exact ok_grown io hk hq R ⟨_,_,R.none_free (get_size _),e1,x.grown hk⟩
 | true =>
  obtain ⟨_,rfl,rfl⟩:=okL_true q
  exact ok_cell (own:=fun x => x = m.s.heap.objs.size) io hq R hk is_size fun S => ⟨_,e1,Step.vrs (m':=⟨m.σ,_,s'⟩) S R x,fun _ => Iff.rfl⟩
theorem ok_newL {mk:Bool} {l:List V} {vs:List Value} {σ':St} {t:Nat} (q:okL mk l m.σ = .ok v σ') (hq:Q v σ') (R:Rel b m) (x:VMs m l vs) :
  OK b Q m (.ref m.s.heap.objs.size) { m.s with heap:=m.s.heap.push { cls:=.type "list",data:=.seq vs.toArray },toks:=t }:=ok_newLat q hq rfl R x grown_push ⟨0,Heap.get?_push_size _ rfl⟩
theorem ok_newD {kvs:List (Str × V)} {f:List (Str × Value)} (q:Q (.ref m.σ.length) (m.σ ++ [.dict kvs])) (io:(sio s') = (sio m.s)) (R:Rel b m) (x:KVs (VM m) kvs f) (hk:Grown m.s.heap s'.heap) (e1:s'.heap.DictOf (SK b.w) m.s.heap.objs.size f):OK b Q m (.ref m.s.heap.objs.size) s' :=
 ok_cell (own:=fun x => x = m.s.heap.objs.size) io q R hk is_size fun S => ⟨_,e1,x.mono fun _ _ z => Step.vr (m':=⟨m.σ,_,s'⟩) S R z,fun _ => Iff.rfl⟩
end
theorem oO_inv {α:Type} {o:Option α} {f:α -> Out} {v:V} {σ':St} (q:oO o f = .ok v σ'):∃ a,o = some a /\ f a = .ok v σ':=by
 cases o with
 | none => cases q
 | some a => exact ⟨a,rfl,q⟩
theorem okI_inv {c:Prop} [Decidable c] {v0 v:V} {σ σ':St} (q:okI c v0 σ = .ok v σ'):c /\ v0 = v /\ σ = σ':=by
 unfold okI at q
 by_cases h:c
 ·rw [if_pos h] at q; cases q; exact ⟨h,rfl,rfl⟩
 ·rw [if_neg h] at q; cases q
theorem if_inv {α:Type} {c:Prop} [Decidable c] {x:Out} {v:V} {σ':St} (q:(if c then x else .bad) = .ok v σ'):c /\ x = .ok v σ':=by
 by_cases h:c
 ·rw [if_pos h] at q; exact ⟨h,q⟩
 ·rw [if_neg h] at q; cases q
section
variable {b:Hb} {m:Ms} {A:Around} {E:Value -> Shared -> Prop} {Q:V -> St -> Prop}
theorem oO_int {a:V} {va:Value} {f:Int -> Out} {v:V} {σ':St} {G:Prop} (q:oO a.int? f = .ok v σ') (e:VM m a va) (h:∀ i t,va = .int i t -> f i = .ok v σ' -> G):G:=by
 cases a <;> try cases q
 obtain ⟨t⟩:=e
 exact h _ t rfl q
theorem oO_str {a:V} {va:Value} {f:Str -> Out} {v:V} {σ':St} {G:Prop} (q:oO a.str? f = .ok v σ') (e:VM m a va) (h:∀ s t,va = .str s t -> PyData.strOk s = true -> f s = .ok v σ' -> G):G:=by
 cases a <;> try cases q
 obtain ⟨t,ok⟩:=e
 exact h _ t rfl ok q
theorem int2_inv {a c:V} {va vc:Value} {f:Int -> Int -> Out} {v:V} {σ':St} {G:Prop} (q:int2 a c f = .ok v σ') (ea:VM m a va) (ec:VM m c vc) (h:∀ x y t u,va = .int x t -> vc = .int y u -> f x y = .ok v σ' -> G):G :=
 oO_int q ea fun x t e q => oO_int q ec fun y u e' q => h x y t u e e' q
inductive LstAt (m:Ms) (l:List V):Value -> Prop | mk (a:Addr) (items:Array Value) (p:m.s.heap.PlainList a items) (r:VMs m l items.toList):LstAt m l (.ref a)
theorem getL_lists (R:Rel b m) {v:V} {x:Value} (e:VM m v x) {l:List V} (q:getL m.σ v = some l):LstAt m l x:=by
 cases v with
 | lst _ => cases q; obtain ⟨a,items,_,p,r⟩:=e; exact ⟨a,items,p,r⟩
 | ref n =>
  obtain ⟨hn⟩:=e
  obtain ⟨items,p,r,_⟩:=R.at_ n _ (lstAt_of q)
  exact ⟨_,items,p,r⟩
 | _ => cases q
theorem VRs.size {h:Heap} {U:Addr -> Prop} {R:Nat -> Value -> Prop} {vs:List V} {items:Array Value} (e:VRs h U R vs items.toList):items.size = vs.length:=e.length
theorem big_le:big <= sizeLine:=by rw [sizeLine_eq]; decide
theorem strOk_append {x y:Str} (hx:PyData.strOk x = true) (hy:PyData.strOk y = true):PyData.strOk (x ++ y) = true:=by
 unfold PyData.strOk at *
 show (x.cps ++ y.cps).all _ = true
 rw [Array.all_append,hx,hy]; rfl
theorem add_plain {s:Shared} {l c:Addr} {its its2:Array Value} {Q:Value -> Shared -> Prop} (hl:s.heap.PlainList l its) (hb:s.heap.PlainList c its2) (hsz:its.size + its2.size <= sizeLine)
  (h:Q (.ref s.heap.objs.size) { s with heap:=s.heap.push { cls:=.type "list",data:=.seq (its.toList ++ its2.toList).toArray } }) :
  wpAny b.M A (binaryOp .Add (.ref l) (.ref c)) Q E s:=by
 obtain ⟨n,ho⟩:=hl
 obtain ⟨n2,ho2⟩:=hb
 have e:its ++ its2 = (its.toList ++ its2.toList).toArray:=by simp
 rw [<- e] at h
 exact concat_meets ⟨_,ho,rfl⟩ ⟨_,ho2,rfl⟩ noFill_list_add seq_list_add PySem.F.slot_list_add PySem.F.entry_list_add (PySem.F.args_list_add_2 _ _) (list_addW l c its its2 n n2 none none #[] #[] hsz) ⟨ho,ho2,h⟩
theorem no_pylong {a b:Int} (hb:b.natAbs < 2 ^ 60):Builtin.divisionGoesByPylong a b = false:=by
 have:¬ ((if (b == 0) = true then 0 else b.natAbs.log2 / 30 + 1) > 300):=by
  by_cases h0:(b == 0) = true
  ·rw [if_pos h0]; exact Nat.not_lt_zero _
  ·rw [if_neg h0]
   have:=(Nat.log2_lt (n:=b.natAbs) (k:=60) fun e => h0 (beq_iff_eq.mpr (Int.natAbs_eq_zero.mp e))).mpr hb
   lia
 simp only [Builtin.divisionGoesByPylong,decide_eq_false this,Bool.false_and]
theorem mul_plain {s:Shared} {l:Addr} {items:Array Value} {x:Int} {u:Tok} {Q:Value -> Shared -> Prop} (hp:s.heap.PlainList l items) (hx:x = 0 \/ x = 1) (hsz:items.size <= big)
  (h:Q (.ref s.heap.objs.size) { s with heap:=s.heap.push { cls:=.type "list",data:=.seq (if x = 1 then items.toList else []).toArray } }) :
  wpAny b.M A (binaryOp .Mult (.ref l) (.int x u)) Q E s:=by
 obtain ⟨k,hl⟩:=hp
 have e:(List.foldl (fun x1 x2 => x1 ++ x2) #[] (List.replicate (if items.isEmpty = true then 0 else x.toNat) items)) = (if x = 1 then items.toList else []).toArray:=by
  rcases hx with rfl | rfl
  ·simp
  ·by_cases hi:items.isEmpty = true
   ·have:items = #[]:=by simpa using hi
    subst this; simp
   ·simp [hi]
 have hm:items.size * x.toNat <= 1000000:=by
  rcases hx with rfl | rfl
  ·exact Nat.zero_le _
  ·rw [show items.size * Int.toNat 1 = items.size from Nat.mul_one _]; exact hsz
 refine wpAny_binaryOp_repeat_ref (T:="list") (U:="int") (by decide) ⟨_,hl,rfl⟩ (fun s' => typeIs_int s' x u) noFill_list_mul F.fills_int_mul F.slot_int_rmul repeat_list F.slot_int_index.lookup
  (call_meets F.slot_int_rmul (typeIs_int s x u) F.entry_int_rmul (F.args_int_rmul_2 _ _) (int___rmul___int_list x u l items k)
   ⟨hl,rfl,⟨_,hl,rfl⟩,call_meets F.slot_list_mul ⟨_,hl,rfl⟩ F.entry_list_mul (F.args_list_mul_2 _ _)
    (AutoListH.list___mul___list_int_3 l items k x u (by rcases hx with rfl | rfl <;> decide) (Nat.not_lt.mpr (Nat.le_trans hm (by decide))) (by simp [Builtin.List.listTooLong,sizeLine]; lia))
    ⟨hl,?_⟩⟩)
 rw [e]; exact h
theorem add_lists {mk:Bool} {a c v:V} {va vc:Value} {σ':St} (R:Rel b m) (ea:VM m a va) (ec:VM m c vc) (q:(oO (getL m.σ a) fun l => oO (getL m.σ c) fun k => okL mk (l ++ k) m.σ) = .ok v σ') (hq:Q v σ') :
  wpAny b.M A (binaryOp .Add va vc) (OK b Q m) E m.s:=by
 obtain ⟨l,e1,q⟩:=oO_inv q
 obtain ⟨k,e2,q⟩:=oO_inv q
 obtain ⟨x,xs,p1,p2⟩:=getL_lists R ea e1
 obtain ⟨y,ys,q1,q2⟩:=getL_lists R ec e2
 refine add_plain p1 q1 (Nat.le_trans ?_ big_le) (ok_newL q hq R (p2.append q2))
 have:=okL_len q
 rw [List.length_append,<- p2.length,<- q2.length] at this
 exact this
theorem sound_bin {mk:Bool} {op:Operator} {a c v:V} {va vc:Value} {σ':St} (R:Rel b m) (ea:VM m a va) (ec:VM m c vc) (q:binF mk op a c m.σ = .ok v σ') (hq:Q v σ') :
  wpAny b.M A (binaryOp op va vc) (OK b Q m) E m.s:=by
 cases op with
 | Add =>
  cases a with
  | int x =>
   refine oO_int q ec fun y u e q => ?_
   subst e; obtain ⟨t⟩:=ea; cases q
   exact add_int (ok_at hq R ⟨_⟩)
  | str x =>
   refine oO_str q ec fun y u e c2 q => ?_
   subst e; obtain ⟨t,c1⟩:=ea
   obtain ⟨c,rfl,rfl⟩:=okI_inv q
   exact add_str (fun t' tk => ok_at hq R ⟨_,strOk_append c1 c2⟩) (by rwa [Str.length_append] at c)
  | _ => exact add_lists (mk:=mk) R ea ec q hq
 | Sub =>
  refine int2_inv q ea ec fun x y t u e1 e2 q => ?_
  subst e1 e2; cases q
  exact sub_int (ok_at hq R ⟨_⟩)
 | Mult =>
  cases a with
  | int x =>
   refine oO_int q ec fun y u e q => ?_
   subst e; obtain ⟨t⟩:=ea
   obtain ⟨c,rfl,rfl⟩:=okI_inv q
   exact mul_int (ok_at hq R ⟨_⟩) (c.elim (fun z => .of_left (intBits_le_64 (by omega) (by omega))) fun z => .of_right (intBits_le_64 (by omega) (by omega)))
  | lst l =>
   refine oO_int (a:=c) q ec fun y u e q => ?_
   subst e; obtain ⟨x,xs,_,p1,p2⟩:=ea
   obtain ⟨⟨hy,hl⟩,q⟩:=if_inv (α:=V) q
   refine mul_plain p1 hy (p2.size.symm ▸ hl) (ok_newL q hq R ?_)
   rcases hy with rfl | rfl
   ·exact rfl
   ·exact p2
  | _ => cases (show Out.bad = .ok v σ' from q)
 | FloorDiv =>
  refine int2_inv q ea ec fun x y t u e1 e2 q => ?_
  subst e1 e2
  obtain ⟨c,rfl,rfl⟩:=okI_inv q
  exact floordiv_int (Int.ne_of_gt c.1) (ok_at hq R ⟨_⟩) (.inl (no_pylong (by omega)))
 | Mod =>
  refine int2_inv q ea ec fun x y t u e1 e2 q => ?_
  subst e1 e2
  obtain ⟨c,rfl,rfl⟩:=okI_inv q
  exact mod_int' (Int.ne_of_gt c) (ok_at hq R ⟨_⟩)
 | Pow =>
  refine int2_inv q ea ec fun x y t u e1 e2 q => ?_
  subst e1 e2
  obtain ⟨⟨rfl,rfl⟩,rfl,rfl⟩:=okI_inv q
  exact pow_int (by decide) (by decide +kernel) (ok_at hq R ⟨_⟩)
 | _ => cases q
end
mutual
noncomputable def V.py:V -> PyData
 | .none => .none
 | .bool b => .bool b
 | .int i => .int i
 | .str s => .str s
 | .tup l => .tuple (V.pys l)
 | .lst l => .list (V.pys l)
 | .rng .. => .none
 | .ref _ => .none
noncomputable def V.pys:List V -> List PyData
 | [] => []
 | v :: r => V.py v :: V.pys r
end
inductive PyR (h:Heap) (x:Value) (d:PyData) (n:Nat):Prop | mk (as:List Addr) (r:Reads h x d as) (c:d.canLay0 = true) (e:d.depth <= n)
inductive PyRs (h:Heap) (x:List Value) (d:List PyData) (n:Nat):Prop | mk (as:List Addr) (r:ReadsAll h x d as) (c:PyData.canLayAll0 d = true) (e:PyData.depthAll d <= n)
theorem pyr_seq {h:Heap} {a:Addr} {items:Array Value} {l:List V} {n:Nat}:(PlainTup h a items -> PyRs h items.toList (V.pys l) n -> PyR h (.ref a) (.tuple (V.pys l)) (n + 1)) /\ (h.PlainList a items -> PyRs h items.toList (V.pys l) n -> PyR h (.ref a) (.list (V.pys l)) (n + 1)) :=
 ⟨fun ⟨_,hi⟩ ⟨as,r,c,e⟩ => ⟨as,.tuple hi rfl rfl r,c,by rw [PyData.depth]; lia⟩,fun ⟨_,hi⟩ ⟨as,r,c,e⟩ => ⟨_,.list hi rfl rfl r,c,by rw [PyData.depth]; lia⟩⟩
mutual
theorem py_reads {h:Heap} {U:Addr -> Prop} {T:Nat -> Value -> Prop}:∀ {v:V} {n:Nat} {x:Value},V.lvl v n = true -> VR h U T v x -> PyR h x v.py n
 | .none,_,_,_,e => by cases e; exact ⟨[],.none,rfl,Nat.zero_le _⟩
 | .bool _,_,_,_,e => by cases e; exact ⟨[],.bool _,rfl,Nat.zero_le _⟩
 | .int _,_,_,_,e => by obtain ⟨t⟩:=e; exact ⟨[],.int _ _,rfl,Nat.zero_le _⟩
 | .str _,_,_,_,e => by obtain ⟨t,ok⟩:=e; exact ⟨[],.str _ _,ok,Nat.zero_le _⟩
 | .tup l,n,_,q,e => by
  obtain ⟨a,items,p,r⟩:=e
  cases n with
  | zero => cases q
  | succ n => exact pyr_seq.1 p (py_readss q r)
 | .lst l,n,_,q,e => by
  obtain ⟨a,items,_,p,r⟩:=e
  cases n with
  | zero => cases q
  | succ n => exact pyr_seq.2 p (py_readss q r)
 | .rng ..,_,_,q,_ => nomatch q
 | .ref _,_,_,q,_ => nomatch q
theorem py_readss {h:Heap} {U:Addr -> Prop} {T:Nat -> Value -> Prop}:∀ {v:List V} {n:Nat} {x:List Value},V.lvls v n = true -> VRs h U T v x -> PyRs h x (V.pys v) n
 | [],_,_,_,e => by cases e; exact ⟨[],.nil,rfl,Nat.zero_le _⟩
 | v :: r,n,_,q,e => by
  obtain ⟨x,xs,e1,e2⟩:=e
  have q:=Bool.and_eq_true_iff.mp q
  obtain ⟨as,a1,a2,a3⟩:=py_reads q.1 e1
  obtain ⟨bs,b1,b2,b3⟩:=py_readss q.2 e2
  exact ⟨_,.cons a1 b1,Bool.and_eq_true_iff.mpr ⟨a2,b2⟩,Nat.max_le.mpr ⟨a3,b3⟩⟩
end
theorem V.none_of {v:V} (h:v.isNone = true):v = .none:=by cases v <;> first | rfl | cases h
theorem bif_some {c:Bool} {α:Type} {x y:α} (h:(bif c then some x else none) = some y):c = true /\ x = y:=by
 cases c
 ·cases h
 ·cases h; exact ⟨rfl,rfl⟩
theorem eqvAll_len:∀ (l m:List V),l.length ≠ m.length -> PyData.eqvAll (V.pys l) (V.pys m) = false
 | [],m,h => by
  cases m with
  | nil => exact absurd rfl h
  | cons => rfl
 | a :: l,m,h => by
  cases m with
  | nil => rfl
  | cons b m => exact Bool.and_eq_false_iff.mpr (.inr (eqvAll_len l m fun e => h (congrArg (· + 1) e)))
theorem eqv_int {a b:Int}:PyData.eqv (.int a) (.int b) = decide (a = b):=by rw [PyData.eqv]; rfl
theorem eqv_str {a b:Str}:PyData.eqv (.str a) (.str b) = decide (a = b):=by rw [PyData.eqv]; rfl
mutual
theorem eqV_py:∀ {a b:V} {r:Bool},eqV a b = some r -> PyData.eqv a.py b.py = r
 | .none,b,r,e => by obtain ⟨h,rfl⟩:=bif_some e; rw [V.none_of h]; rfl
 | .bool a,b,r,e => by obtain ⟨x,h,rfl⟩:=Option.map_eq_some_iff.mp e; rw [V.bool_of h]; rfl
 | .int a,b,r,e => by obtain ⟨x,h,rfl⟩:=Option.map_eq_some_iff.mp e; rw [V.int_of h]; exact eqv_int
 | .str a,b,r,e => by obtain ⟨x,h,rfl⟩:=Option.map_eq_some_iff.mp e; rw [V.str_of h]; exact eqv_str
 | .tup l,b,r,e => by obtain ⟨x,h,e⟩:=bind_of e; rw [V.tup_of h]; exact eqVs_py e
 | .lst l,b,r,e => by
  obtain ⟨x,h,e⟩:=bind_of e
  rw [V.lst_of h]
  by_cases q:l.length = x.length
  ·rw [if_pos q] at e; exact eqVs_py e
  ·rw [if_neg q] at e; cases e; exact eqvAll_len l x q
 | .rng ..,_,_,e => nomatch e
 | .ref _,_,_,e => nomatch e
theorem eqVs_py:∀ {a b:List V} {r:Bool},eqVs a b = some r -> PyData.eqvAll (V.pys a) (V.pys b) = r
 | [],b,r,e => by
  cases b with
  | nil => cases e; rfl
  | cons => cases e
 | a :: l,b,r,e => by
  cases b with
  | nil => cases e
  | cons b m =>
   obtain ⟨c,h,e⟩:=bind_of e
   have h:=eqV_py h
   cases c with
   | true => exact (congrArg (· && _) h).trans (eqVs_py e)
   | false => cases e; exact congrArg (· && _) h
end
theorem shaped_of {d:PyData} (h1:d.canLay0 = true) (h2:d.depth <= 8):SeqAt.shaped d = true:=by
 unfold SeqAt.shaped; rw [h1]; simp; lia
noncomputable def Both (b:Hb) (A:Around) (E:Value -> Shared -> Prop) (s:Shared) (o1 o2:CmpOp) (va vb:Value) (c:Bool):Prop:=∀ P:Value -> Shared -> Prop,
 ((∀ t,P (.bool c) { s with toks:=t }) -> wpAny b.M A (compareOp o1 va vb) P E s) /\ ((∀ t,P (.bool !c) { s with toks:=t }) -> wpAny b.M A (compareOp o2 va vb) P E s)
section
variable {b:Hb} {m:Ms} {A:Around} {E:Value -> Shared -> Prop} {Q:V -> St -> Prop}
theorem both_data {va vb:Value} {x y:PyData} {as bs:List Addr} {c:Bool} (ra:Reads m.s.heap va x as) (rb:Reads m.s.heap vb y bs) (sa:SeqAt.shaped x = true) (sb:SeqAt.shaped y = true) (hu:A.units + 70 < cLine) (ev:PyData.eqv x y = c):Both b A E m.s .Eq .NotEq va vb c:=by
 subst ev
 exact fun P => ⟨fun h => eq_dataH ra rb sa sb (by lia) (h _),fun h => ne_dataH ra rb sa sb (by lia) (h _)⟩
theorem both_lists {va vb:Value} {l k:List V} {c:Bool} (la:LstAt m l va) (lb:LstAt m k vb) (q:eqL l k = some c) (hu:A.units + 70 < cLine):Both b A E m.s .Eq .NotEq va vb c:=by
 obtain ⟨x,xs,p1,p2⟩:=la
 obtain ⟨y,ys,q1,q2⟩:=lb
 unfold eqL at q
 by_cases hl:l.length ≠ k.length
 ·rw [if_pos hl] at q; cases q
  have hz:(xs.size != ys.size) = true:=by rw [p2.size,q2.size]; simpa using hl
  exact fun P => ⟨fun hP => cmp_ofEq (SeqAt.RcAt.lists_lengths p1.isList q1.isList hz (by lia) Pg b.w E P (hP _)),fun hP => SeqAt.RcNeAt.lists_lengths p1.isList q1.isList hz (by lia) Pg b.w E P (hP _)⟩
 ·rw [if_neg hl] at q
  cases hv:(V.lvls l 7 && V.lvls k 7) with
  | false => rw [hv] at q; cases q
  | true =>
   rw [hv] at q
   have hv:=Bool.and_eq_true_iff.mp hv
   obtain ⟨as,a1,a2,a3⟩:=pyr_seq.2 p1 (py_readss hv.1 p2)
   obtain ⟨bs,b1,b2,b3⟩:=pyr_seq.2 q1 (py_readss hv.2 q2)
   exact both_data a1 b1 (shaped_of a2 a3) (shaped_of b2 b3) hu (eqVs_py q)
theorem sound_eq {a c:V} {va vc:Value} {r:Bool} (R:Rel b m) (ea:VM m a va) (ec:VM m c vc) (q:eqQ m.σ a c = some r) (hu:A.units + 70 < cLine):Both b A E m.s .Eq .NotEq va vc r:=by
 unfold eqQ at q
 cases e1:getL m.σ a with
 | some l =>
  rw [e1] at q
  cases e2:getL m.σ c with
  | some k => rw [e2] at q; exact both_lists (getL_lists R ea e1) (getL_lists R ec e2) q hu
  | none => rw [e2] at q; cases q
 | none =>
  rw [e1] at q
  cases hv:(V.lvl a 8 && V.lvl c 8) with
  | false => rw [hv] at q; cases q
  | true =>
   rw [hv] at q
   have hv:=Bool.and_eq_true_iff.mp hv
   obtain ⟨as,a1,a2,a3⟩:=py_reads hv.1 ea
   obtain ⟨bs,b1,b2,b3⟩:=py_reads hv.2 ec
   exact both_data a1 b1 (shaped_of a2 a3) (shaped_of b2 b3) hu (eqV_py q)
theorem str_key {s:Str} {t:Tok}:(strKind Pg b.w).is s (.str s t) = true:=strKind_is _ _ _ _
theorem strsOf_cons {v:V} {r:List V} {ss:List Str} (q:strsOf (v :: r) = some ss):∃ s rs,v = .str s /\ strsOf r = some rs /\ s :: rs = ss:=by
 obtain ⟨s,e,q⟩:=bind_of q
 obtain ⟨rs,e2,q⟩:=Option.map_eq_some_iff.mp q
 exact ⟨s,rs,V.str_of e,e2,q⟩
theorem strsOf_vr {h:Heap} {U:Addr -> Prop} {T:Nat -> Value -> Prop} {l:List V}:∀ {x:List Value} {ss:List Str},strsOf l = some ss -> VRs h U T l x -> ItemsAre (strKind Pg b.w) ss x:=by
 induction l with
 | nil => intro x ss q e; cases q; cases e; exact .nil
 | cons v r ih =>
  intro x ss q e
  obtain ⟨s,rs,rfl,q1,rfl⟩:=strsOf_cons q
  obtain ⟨y,ys,⟨t,_⟩,e2⟩:=e
  exact .cons str_key (ih q1 e2)
theorem tuple_key {h:Heap} {a:Addr} {items:Array Value} {l:List V} {ss:List Str} {U:Addr -> Prop} {T:Nat -> Value -> Prop} (q:strsOf l = some ss) (hp:PlainTup h a items) (e:VRs h U T l items.toList):(tupleKind (strKind Pg b.w)).is h ss a :=
 hp.elim fun n hp => ⟨_,items,n,hp,rfl,rfl,strsOf_vr q e⟩
theorem strsOf_py {y:Str} {l:List V}:∀ {ss:List Str},strsOf l = some ss -> (V.lvls l 1 = true) /\ (V.pys l).any (fun d => PyData.eqv d (.str y)) = decide (y ∈ ss):=by
 induction l with
 | nil => intro ss q; cases q; exact ⟨rfl,rfl⟩
 | cons v r ih =>
  intro ss q
  obtain ⟨s,rs,rfl,q1,rfl⟩:=strsOf_cons q
  obtain ⟨h1,h2⟩:=ih q1
  refine ⟨h1,?_⟩
  show (PyData.eqv (.str s) (.str y) || (V.pys r).any fun d => PyData.eqv d (.str y)) = _
  rw [h2,eqv_str,Bool.eq_iff_iff,Bool.or_eq_true,decide_eq_true_iff,decide_eq_true_iff,decide_eq_true_iff,List.mem_cons]
  exact ⟨fun q => q.imp_left Eq.symm,fun q => q.imp_left Eq.symm⟩
theorem kvs_value {P:V -> Value -> Prop} {kvs:List (Str × V)}:∀ {f:List (Str × Value)} {s:Str},KVs P kvs f -> OptR P (kvs.lookup s) (valueAt f s):=by
 induction kvs with
 | nil => intro f s e; cases e; rfl
 | cons p r ih =>
  intro f s e
  obtain ⟨k,v⟩:=p
  obtain ⟨x,xs,e1,e2⟩:=e
  unfold valueAt
  rw [List.lookup,List.find?_cons]
  by_cases q:s = k
  ·subst q; rw [beq_self_eq_true,decide_eq_true rfl]; exact ⟨x,rfl,e1⟩
  ·rw [beq_eq_false_iff_ne.mpr q,decide_eq_false fun z => q z.symm]; exact ih e2
theorem khs_value {P:V -> Value -> Prop} {kvs:List (List Str × V)}:∀ {f:List (List Str × Addr × Value)} {s:List Str},KHs P kvs f -> (atKey f s).isSome = (kvs.lookup s).isSome:=by
 induction kvs with
 | nil => intro f s e; cases e; rfl
 | cons p r ih =>
  intro f s e
  obtain ⟨k,v⟩:=p
  obtain ⟨a,x,xs,e1,e2⟩:=e
  unfold atKey
  rw [List.lookup,List.find?_cons]
  by_cases q:s = k
  ·subst q; rw [beq_self_eq_true,decide_eq_true rfl]; rfl
  ·rw [beq_eq_false_iff_ne.mpr q,decide_eq_false fun z => q z.symm]; exact ih e2
theorem kvs_some {P:V -> Value -> Prop} {kvs:List (Str × V)} {f:List (Str × Value)} {s:Str} {v:V} (e:KVs P kvs f) (q:kvs.lookup s = some v):∃ y,valueAt f s = some y /\ P v y:=by
 have:=kvs_value (s:=s) e
 rw [q] at this; exact this
theorem kvs_none {P:V -> Value -> Prop} {kvs:List (Str × V)} {f:List (Str × Value)} {s:Str} (e:KVs P kvs f) (q:kvs.lookup s = none):valueAt f s = none:=by
 have:=kvs_value (s:=s) e
 rw [q] at this; exact this
noncomputable def SysAt (b:Hb):Prop:=∃ o,b.get? sysModules = some o
theorem Rel.not_sys (R:Rel b m) (hz:SysAt b) {i:Nat} {x:Addr} (hi:i < m.g.n) (hx:m.g.ow i x):(x == sysModules) = false:=by
 have h1:=R.ge i x hi hx
 rw [beq_eq_false_iff_ne]
 intro e
 obtain ⟨o,ho⟩:=hz
 rw [e,ho] at h1; cases h1
theorem in_seq {y:Str} {t:Tok} {a:Addr} {l:List V} {items:Array Value} {r:Bool} (ok:PyData.strOk y = true) (hp:PlainTup m.s.heap a items \/ m.s.heap.PlainList a items) (e:VMs m l items.toList) (q:strsIn y l = some r) (hu:A.units + 70 < cLine):Both b A E m.s .In .NotIn (.str y t) (.ref a) r:=by
 obtain ⟨ss,q1,rfl⟩:=Option.map_eq_some_iff.mp q
 obtain ⟨v1,v2⟩:=strsOf_py (y:=y) q1
 obtain ⟨as,a1,a2,a3⟩:=py_readss v1 e
 have hroom:A.units + 1 + min (PyData.depthAll (V.pys l)) (PyData.depth (.str y)) < cLine:=by omega
 rw [<- v2]
 rcases hp with ⟨n,hi⟩ | ⟨n,hi⟩
 ·have rc:Reads m.s.heap (.ref a) (.tuple (V.pys l)) _:=.tuple hi rfl rfl a1
  exact fun P => ⟨fun hP => SeqAt.in_tuple_reads rc (.str y t) a2 ok hroom (hP _),fun hP => SeqAt.notIn_tuple_reads rc (.str y t) a2 ok hroom (hP _)⟩
 ·have rc:Reads m.s.heap (.ref a) (.list (V.pys l)) _:=.list hi rfl rfl a1
  exact fun P => ⟨fun hP => SeqAt.in_list_reads rc (.str y t) a2 ok hroom (hP _),fun hP => SeqAt.notIn_list_reads rc (.str y t) a2 ok hroom (hP _)⟩
theorem in_dict (R:Rel b m) (hz:SysAt b) {y:Str} {t:Tok} {n:Nat} {kvs:List (Str × V)} (q:m.σ[n]? = some (.dict kvs)):Both b A E m.s .In .NotIn (.str y t) (.ref (m.g.ρ n)) (kvs.lookup y).isSome:=by
 obtain ⟨f,d1,d2,hw⟩:=R.at_ n _ q
 have hs:=R.not_sys hz (R.get q) ((hw _).mpr rfl)
 have ev:(valueAt f y).isSome = (kvs.lookup y).isSome:=by
  cases q:kvs.lookup y with
  | none => rw [kvs_none d2 q]; rfl
  | some v => obtain ⟨z,q1,_⟩:=kvs_some d2 q; rw [q1]; rfl
 rw [<- ev]
 exact fun P => ⟨fun hP => wpAny_in_of str_key hs d1.mapOf (hP _),fun hP => wpAny_notIn_of str_key hs d1.mapOf (hP _)⟩
theorem dict_none {h:Heap} {a:Addr} (d:h.DictOf (SK b.w) a []):h.DictOfH (tupleKind (SK b.w)) a []:=by
 obtain ⟨o,es,ep,d1,dx,d2,d3,d4,_⟩:=d
 have he:es.toList = []:=by cases q:es.toList with | nil => rfl | cons a b => rw [q] at d4; cases d4
 exact ⟨o,es,ep,d1,dx,d2,by rw [he]; rfl,(fun _ hx => nomatch hx),List.nodup_nil⟩
theorem in_tdict {f:List (List Str × Addr × Value)} {x a:Addr} {ks:List V} {ss:List Str} {items:Array Value} (hs:(a == sysModules) = false) (q1:strsOf ks = some ss) (hp:PlainTup m.s.heap x items) (r:VMs m ks items.toList) (d:m.s.heap.DictOfH (tupleKind (SK b.w)) a f) (hu:A.units + 70 < cLine):Both b A E m.s .In .NotIn (.ref x) (.ref a) (atKey f ss).isSome :=
 have hr:(tupleKind (strKind Pg b.w)).room A.in1:=tupleKind_room_in1 (by lia)
 fun P => ⟨fun hP => wpAny_in_heap hr (tuple_key q1 hp r) hs d (hP _),fun hP => wpAny_notIn_heap hr (tuple_key q1 hp r) hs d (hP _)⟩
theorem sound_in {a c:V} {va vc:Value} {r:Bool} (R:Rel b m) (hz:SysAt b) (ea:VM m a va) (ec:VM m c vc) (q:inQ m.σ a c = some r) (hu:A.units + 70 < cLine):Both b A E m.s .In .NotIn va vc r:=by
 cases a with
 | str y =>
  obtain ⟨t,ok⟩:=ea
  cases c with
  | str x => obtain ⟨u,_⟩:=ec; cases q; exact fun P => ⟨fun hP => in_str (hP _),fun hP => notIn_str (hP _)⟩
  | tup l => obtain ⟨x,items,p,r⟩:=ec; exact in_seq ok (.inl p) r q hu
  | lst l => obtain ⟨x,items,_,p,r⟩:=ec; exact in_seq ok (.inr p) r q hu
  | ref n =>
   obtain ⟨hn⟩:=ec
   obtain ⟨kvs,e,rfl⟩:=Option.map_eq_some_iff.mp q
   exact in_dict R hz (dictAt_of e)
  | _ => cases q
 | tup ks =>
  obtain ⟨n,e,q⟩:=bind_of q
  rw [V.ref_of e] at ec
  obtain ⟨hn⟩:=ec
  obtain ⟨ss,q1,q⟩:=bind_of q
  obtain ⟨cl,e1,q⟩:=bind_of q
  obtain ⟨x,items,hp,r⟩:=ea
  cases cl with
  | dict kvs =>
   obtain ⟨hk,rfl⟩:=bif_some q
   obtain ⟨f,d1,d2,hw⟩:=R.at_ n _ e1
   rw [List.isEmpty_iff.mp hk] at d2
   cases d2
   exact in_tdict (R.not_sys hz hn ((hw _).mpr rfl)) q1 hp r (dict_none d1) hu
  | tdict kvs =>
   cases q
   obtain ⟨f,d1,_,d2,hw⟩:=R.at_ n _ e1
   rw [<- khs_value d2]
   exact in_tdict (R.not_sys hz hn ((hw _).mpr rfl)) q1 hp r d1 hu
  | _ => cases q
 | _ => cases q
theorem is_none_vr {a:V} {va:Value} (e:VM m a va):(va == Value.none) = a.isNone:=by
 cases a <;> cases e <;> rfl
theorem cmp2_inv {a c:V} {va vc:Value} {f:Int -> Int -> Bool} {r:Bool} {G:Prop} (q:cmp2 a c f = some r) (ea:VM m a va) (ec:VM m c vc) (h:∀ x y t u,va = .int x t -> vc = .int y u -> f x y = r -> G):G:=by
 obtain ⟨x,e1,q⟩:=bind_of q
 obtain ⟨y,e2,q⟩:=Option.map_eq_some_iff.mp q
 rw [V.int_of e1] at ea; rw [V.int_of e2] at ec
 obtain ⟨t⟩:=ea; obtain ⟨u⟩:=ec
 exact h x y t u rfl rfl q
theorem sound_cmp {op:CmpOp} {a c:V} {va vc:Value} {r:Bool} (R:Rel b m) (hz:SysAt b) (ea:VM m a va) (ec:VM m c vc) (q:cmpQ m.σ op a c = some r) (hu:A.units + 70 < cLine)
  {P:Value -> Shared -> Prop} (hP:∀ t,P (.bool r) { m.s with toks:=t }):wpAny b.M A (compareOp op va vc) P E m.s:=by
 have hs:P (.bool r) m.s:=hP m.s.toks
 cases op with
 | Eq => exact (sound_eq R ea ec q hu P).1 hP
 | NotEq => obtain ⟨d,q1,rfl⟩:=Option.map_eq_some_iff.mp q; exact (sound_eq R ea ec q1 hu P).2 hP
 | Lt => exact cmp2_inv q ea ec fun x y t u e1 e2 q => by subst e1 e2 q; exact lt_int hs
 | LtE =>
  have two:cmp2 a c (fun x y => decide (x <= y)) = some r -> wpAny b.M A (compareOp .LtE va vc) P E m.s:=fun q => cmp2_inv q ea ec fun x y t u e1 e2 q => by subst e1 e2 q; exact le_int hs
  cases a with
  | str x =>
   obtain ⟨y,e,q⟩:=Option.map_eq_some_iff.mp q
   rw [V.str_of e] at ec
   obtain ⟨t,_⟩:=ea; obtain ⟨u,_⟩:=ec
   subst q
   exact PySem.P.le_str hs
  | _ => exact two q
 | Gt => exact cmp2_inv q ea ec fun x y t u e1 e2 q => by subst e1 e2 q; exact gt_int hs
 | GtE => exact cmp2_inv q ea ec fun x y t u e1 e2 q => by subst e1 e2 q; exact ge_int hs
 | Is =>
  obtain ⟨h,rfl⟩:=bif_some q
  rw [V.none_of h] at ec; cases ec
  exact is_none (by rw [is_none_vr ea]; exact hs)
 | IsNot =>
  obtain ⟨h,rfl⟩:=bif_some q
  rw [V.none_of h] at ec; cases ec
  refine isnot_none_gen ?_
  rw [is_none_vr ea]; exact hs
 | In => exact (sound_in R hz ea ec q hu P).1 hP
 | NotIn => obtain ⟨d,q1,rfl⟩:=Option.map_eq_some_iff.mp q; exact (sound_in R hz ea ec q1 hu P).2 hP
end
theorem place_is {n:Nat} {i:Int} {j:Nat} (e:place n i = some j):-(2 ^ 63) <= i /\ i < 2 ^ 63 /\ seqIndex? i n = some j:=by
 unfold place at e
 by_cases q:-(2 ^ 63) <= i /\ i < 2 ^ 63
 ·rw [if_pos q] at e; exact ⟨q.1,q.2,e⟩
 ·rw [if_neg q] at e; cases e
theorem seqIndex_cases {n:Nat} {i:Int} {j:Nat} (e:seqIndex? i n = some j):(0 <= i /\ j = i.toNat /\ i < n) \/ (i < 0 /\ j = (i + n).toNat /\ -(n:Int) <= i):=by
 unfold seqIndex? at e
 by_cases q:i < 0
 ·simp only [q,if_true] at e
  split at e
  ·rename_i c; simp at c; cases e; right; lia
  ·cases e
 ·simp only [q,if_false] at e
  split at e
  ·rename_i c; simp at c; cases e; left; lia
  ·cases e
section
variable {b:Hb} {m:Ms} {A:Around} {E:Value -> Shared -> Prop} {Q:V -> St -> Prop}
theorem getItem_plain {s:Shared} {l:Addr} {items:Array Value} {k:Int} {u:Tok} {j:Nat} {x:Value} {Q:Value -> Shared -> Prop} (hl:s.heap.PlainList l items) (e:place items.size k = some j) (hx:items[j]? = some x) (h:Q x s) :
  wpAny b.M A (getItem (.ref l) (.int k u)) Q E s:=by
 obtain ⟨h1,h2,h3⟩:=place_is e
 rcases seqIndex_cases h3 with ⟨a,rfl,c⟩ | ⟨a,rfl,c⟩
 ·exact wpAny_getItem_list hl.isList a h2 hx h
 ·exact wpAny_getItem_list_neg hl.isList a c h1 hx h
theorem strOk_one {x:Str} {c j:Nat} (hx:PyData.strOk x = true) (e:x.cps[j]? = some c):PyData.strOk ⟨#[c]⟩ = true:=by
 unfold PyData.strOk at *
 have:=Array.all_eq_true'.mp hx c (Array.mem_of_getElem? e)
 simpa using this
theorem items_at {items:Array Value} {j:Nat} {x:Value} (e:items.toList[j]? = some x):items[j]? = some x:=Array.getElem?_toList ▸ e
theorem int_inv {i:V} {vi:Value} {α:Type} {f:Int -> Option α} {r:α} {G:Prop} (q:i.int?.bind f = some r) (ei:VM m i vi) (h:∀ k t,vi = .int k t -> f k = some r -> G):G:=by
 obtain ⟨k,e,q⟩:=bind_of q
 rw [V.int_of e] at ei
 obtain ⟨t⟩:=ei
 exact h k t rfl q
theorem sub_list {l:List V} {va:Value} {k:Int} {u:Tok} {v:V} {value slice:Expr} (R:Rel b m) (la:LstAt m l va) (q:atL l (place l.length k) = some v) (hq:Q v m.σ) (hs:∀ o j,subscripted slice false o j = operate [o,j] (getItem o j)):wpAny b.M A (subscriptTail value slice va (.int k u)) (OK b Q m) E m.s:=by
 obtain ⟨j,e1,e2⟩:=bind_of q
 obtain ⟨a,items,p,r⟩:=la
 obtain ⟨y,y1,y2⟩:=r.get e2
 exact tail_any p.isList.typeIs slot_list_getitem.lookup (getItem_plain p (r.size.symm ▸ e1) (items_at y1) (ok_at hq R y2)) (hs _ _)
theorem sound_sub {a i v:V} {va vi:Value} {value slice:Expr} (R:Rel b m) (ea:VM m a va) (ei:VM m i vi) (q:subF m.σ a i = some v) (hq:Q v m.σ)
  (hs:∀ o j,subscripted slice false o j = operate [o,j] (getItem o j)):wpAny b.M A (subscriptTail value slice va vi) (OK b Q m) E m.s:=by
 cases a with
 | str x =>
  refine int_inv q ei fun k u e q => ?_
  subst e
  obtain ⟨t,ok⟩:=ea
  obtain ⟨j,e1,q⟩:=bind_of q
  obtain ⟨c,e2,rfl⟩:=Option.map_eq_some_iff.mp q
  obtain ⟨h1,h2,h3⟩:=place_is e1
  refine tail_any (typeIs_str _ _ _) slot_str_getitem.lookup (P.getItem_str (c:=c) ?_ ?_ (ok_at hq R ⟨_,strOk_one ok e2⟩)) (hs _ _)
  ·simp; lia
  ·rw [h3]; exact e2
 | tup l =>
  refine int_inv q ei fun k u e q => ?_
  subst e
  obtain ⟨x,items,hp,r⟩:=ea
  obtain ⟨j,e1,e2⟩:=bind_of q
  obtain ⟨h1,h2,h3⟩:=place_is e1
  obtain ⟨y,y1,y2⟩:=r.get e2
  exact tail_any hp.isTuple.typeIs slot_tuple_getitem.lookup (getItem_tuple hp.isTuple h1 h2 (r.size.symm ▸ h3) (items_at y1) (ok_at hq R y2)) (hs _ _)
 | lst l =>
  refine int_inv q ei fun k u e q => ?_
  subst e
  exact sub_list R (getL_lists R ea rfl) q hq hs
 | ref n =>
  cases i with
  | int k =>
   obtain ⟨l,e,q⟩:=bind_of q
   obtain ⟨u⟩:=ei
   exact sub_list R (getL_lists R ea e) q hq hs
  | str s =>
   obtain ⟨kvs,e,q⟩:=bind_of q
   obtain ⟨u,_⟩:=ei
   obtain ⟨hn⟩:=ea
   obtain ⟨f,d1,d2,_⟩:=R.at_ n _ (dictAt_of e)
   obtain ⟨y,y1,y2⟩:=kvs_some d2 q
   exact tail_any d1.mapOf.typeIs slot_dict_getitem.lookup (wpAny_getItem_of str_key d1.mapOf y1 (ok_at hq R y2)) (hs _ _)
  | _ => cases q
 | _ => cases q
inductive PartR (x:Value) (l:Option Int):Prop | mk (p:IsPart x l) (l':Option (Int × Tok)) (e:x = partValue l') (q:l'.map (·.1) = l)
theorem part_of {v:V} {x:Value} {l:Option Int} (q:partI v = some l) (e:VM m v x):PartR x l:=by
 cases v <;> cases q
 ·cases e; exact ⟨.none,none,rfl,rfl⟩
 ·obtain ⟨t⟩:=e; exact ⟨.int _ t,some (_,t),rfl,rfl⟩
theorem pick_list (items:Array Value) (lo hi st:Option Int):(slicePick items lo hi st).toList = (PySem.sliceRange (sliceBounds lo hi st items.toList.length).1 (sliceBounds lo hi st items.toList.length).2.1 (sliceBounds lo hi st items.toList.length).2.2).filterMap (items.toList[·]?):=by
 unfold slicePick
 simp only [Array.length_toList]
 congr 1
 funext i; simp
theorem vrs_pick {h:Heap} {U:Addr -> Prop} {T:Nat -> Value -> Prop} {l:List V} {x:List Value} (e:VRs h U T l x) (is:List Nat):VRs h U T (is.filterMap (l[·]?)) (is.filterMap (x[·]?)):=by
 induction is with
 | nil => exact rfl
 | cons i r ih =>
  rw [List.filterMap_cons,List.filterMap_cons]
  cases q:l[i]? with
  | none =>
   have:x[i]? = none:=by rw [List.getElem?_eq_none_iff] at q ⊢; rw [e.length]; exact q
   rw [this]; exact ih
  | some v =>
   obtain ⟨y,y1,y2⟩:=e.get q
   rw [y1]
   exact ⟨y,_,y2,ih⟩
theorem strOk_slice {x:Str} (hx:PyData.strOk x = true) (l u:Option Int):PyData.strOk (Txt.slice x l u) = true:=by
 unfold Txt.slice
 split
 ·exact hx
 ·unfold PyData.strOk at *
  rw [Array.all_eq_true'] at hx ⊢
  intro c hc
  simp only [List.mem_toArray,List.mem_filterMap] at hc
  obtain ⟨i,_,hi⟩:=hc
  exact hx c (Array.mem_of_getElem? hi)
theorem str_slice {s:Shared} {x:Str} {t:Tok} {a:Addr} {l u:Option (Int × Tok)} {Q:Value -> Shared -> Prop} (hs:s.heap.IsSlice a l u none) (hz:x.length <= sizeLine)
  (h:∀ t' k,Q (.str (Txt.slice x (l.map (·.1)) (u.map (·.1))) t') { s with toks:=k }):wpAny b.M A (getItem (.str x t) (.ref a)) Q E s:=by
 refine wpAny_getItem_str_slice hs rfl ?_
 unfold sliceMade
 have e:slicePicked x l u none = Builtin.Str.strSliceIndices (l.map (·.1)) (u.map (·.1)) 1 x.length:=rfl
 rw [e]
 unfold Txt.slice at h
 split
 ·rename_i q
  simp only [Option.map_none,Option.getD_none] at q
  rw [if_pos q] at h
  exact h t s.toks
 ·rename_i q
  simp only [Option.map_none,Option.getD_none] at q
  rw [if_neg q] at h
  refine ⟨Nat.le_trans ?_ hz,h _ _⟩
  show (((Builtin.Str.strSliceIndices (l.map (·.1)) (u.map (·.1)) 1 x.length).filterMap (x.cps[·]?)).toArray).size <= _
  rw [List.size_toArray]
  exact Nat.le_trans (List.length_filterMap_le _ _) (sliceIndices_le _ _ _)
theorem sound_slice {mk:Bool} {a lo hi st v:V} {σ':St} {va vl vu vs:Value} {sl:Addr} {value slice:Expr} (R:Rel b m) (ea:VM m a va) (el:VM m lo vl) (eu:VM m hi vu) (es:VM m st vs)
  (hsl:m.s.heap.get? sl = some { cls:=.type "slice",data:=.fields #[vl,vu,vs] }) (q:sliceF mk a lo hi st m.σ = .ok v σ') (hq:Q v σ')
  (hs:∀ o j,∃ ops,subscripted slice false o j = operate ops (getItem o j)):wpAny b.M A (subscriptTail value slice va (.ref sl)) (OK b Q m) E m.s:=by
 obtain ⟨l,q1,q⟩:=oO_inv q
 obtain ⟨u,q2,q⟩:=oO_inv q
 obtain ⟨p,q3,q⟩:=oO_inv q
 obtain ⟨l1,l',l2,l3⟩:=part_of q1 el
 obtain ⟨u1,u',u2,u3⟩:=part_of q2 eu
 obtain ⟨p1,p',p2,p3⟩:=part_of q3 es
 obtain ⟨ops,ho⟩:=hs va (.ref sl)
 have lists:(oO (getL m.σ a) fun xs => if p ≠ some 0 /\ xs.length <= big then okL mk (sliceV xs l u p) m.σ else .bad) = .ok v σ' -> wpAny b.M A (subscriptTail value slice va (.ref sl)) (OK b Q m) E m.s:=fun q => by
  obtain ⟨xs,e1,q⟩:=oO_inv q
  obtain ⟨⟨hk,hb⟩,q⟩:=if_inv (α:=V) q
  obtain ⟨x,items,hp,hr⟩:=getL_lists R ea e1
  refine tail_any hp.isList.typeIs slot_list_getitem.lookup (wpAny_getItem_list_slice hp.isList ⟨_,hsl,rfl,rfl⟩ l1 u1 p1 hk ?_ (by rw [hr.size]; exact Nat.le_trans hb big_le)) ho
  have z:=ok_newL (b:=b) (Q:=Q) (vs:=(slicePick items l u p).toList) (t:=m.s.toks) q hq R (by
   rw [pick_list]
   unfold sliceV
   rw [<- hr.length]
   exact vrs_pick hr _)
  rwa [Array.toArray_toList] at z
 cases a with
 | str x =>
  obtain ⟨⟨rfl,hz⟩,rfl,rfl⟩:=okI_inv q
  obtain ⟨t,ok⟩:=ea
  cases p' with
  | some _ => cases p3
  | none =>
   subst l3 u3
   exact tail_any (typeIs_str _ _ _) slot_str_getitem.lookup (str_slice (l:=l') (u:=u') ⟨_,hsl,rfl,by rw [l2,u2,p2]⟩ hz fun t' tk => ok_at hq R ⟨_,strOk_slice ok _ _⟩) ho
 | _ => exact lists q
end
structure ClsOk (K:Frag) (C:Addr):Prop where
 ga:findIn K (.ref C) "__getattribute__" = some (some (.builtin "object.__getattribute__"))
 gx:findIn K (.ref C) "__getattr__" = some none
 sa:findIn K (.ref C) "__setattr__" = some (some (.builtin "object.__setattr__"))
 over:plainOver K C = true
 dict:(clsIn K C).any (·.hasDict) = true
structure NameOk (K:Frag) (C:Addr) (x:Str):Prop where
 cls:ClsOk K C
 no:findIn K (.ref C) x = some none
 uncopied:copiedNames.contains x = false
section
variable {b:Hb} {m:Ms} {A:Around} {E:Value -> Shared -> Prop} {Q:V -> St -> Prop} {K:Frag}
theorem look_isSome {o:Obj} {es:Array DictEntry} {ep:Nat} {f:Str -> Option Value} {x:Str} (hd:o.data = .dict es ep) (hk:StrKeys es) (hm:∀ n,nsFind es n = f n):lookIn x o = some (f x):=by
 unfold lookIn
 rw [hd]
 dsimp only
 have:=hm x
 unfold nsFind findBy at this
 rw [<- Array.find?_toList] at this
 cases e:f x with
 | some v =>
  rw [e] at this
  obtain ⟨en,e1,e2⟩:=Option.map_eq_some_iff.mp this
  rw [e1]; simp [e2]
 | none =>
  rw [e] at this
  rw [Option.map_eq_none_iff.mp this]
  have:es.toList.any (·.refKey) = false:=by
   rw [List.any_eq_false]; intro en hen; obtain ⟨n,t,hh⟩:=hk en (by simpa using hen); simp [DictEntry.refKey,hh]
  simp [this]
theorem inst_at {h:Heap} {x dx c:Addr} {o:Obj} (hx:h.get? x = some (instObj c dx)) (hd:h.get? dx = some o):W.InstAt h x (instObj c dx) c (some o):=⟨hx,rfl,rfl,hd⟩
theorem handed_vr {v:V} {x:Value} (e:VM m v x):handedIn x = true:=by
 cases v <;> cases e <;> rfl
theorem own_find {C:Addr} {o:Obj} {x:Str} {v:Value} (N:NameOk K C x) (e:lookIn x o = some (some v)):findObj K C (some o) x = some (.value v):=by
 obtain ⟨cd,hc,hd⟩:=any_some N.cls.dict
 unfold findObj
 rw [hc,N.no]
 show (W.ownOf cd (some o) x).bind _ = _
 unfold W.ownOf
 rw [hd,if_pos rfl]
 simp only [e]
 rfl
theorem bif_opt {c:Bool} {α:Type} {o:Option α} {y:α} (h:(bif c then o else none) = some y):c = true /\ o = some y:=by
 cases c
 ·cases h
 ·exact ⟨rfl,h⟩
theorem inst_of {n:Nat} {p:Addr × List (Str × V)} (h:(m.σ[n]?).bind instAt = some p):m.σ[n]? = some (.inst p.1 p.2):=by
 obtain ⟨c,e,h⟩:=bind_of h
 rw [e,instAt_of h]
theorem sound_attr {cs:List Addr} {a v:V} {va:Value} {x:Str} {expr:Bool} (X:K.In b.heap) (hN:∀ c,cs.contains c = true -> NameOk K c x) (R:Rel b m) (ea:VM m a va) (q:attrF m.σ a x cs = some v) (hq:Q v m.σ):wpAny b.M A (getAttr va x expr) (OK b Q m) E m.s:=by
 obtain ⟨n,e1,q⟩:=bind_of q
 rw [V.ref_of e1] at ea
 obtain ⟨hn⟩:=ea
 obtain ⟨p,e2,q⟩:=bind_of q
 obtain ⟨hc,q⟩:=bif_opt q
 obtain ⟨dx,f,i1,⟨o,es,ep,i3,i2d,i2k,_,i2m⟩,i5,i6,i7⟩:=R.at_ n _ (inst_of e2)
 have hv:=i6 x
 rw [q] at hv
 obtain ⟨y,y1,y2⟩:=hv
 have N:=hN _ hc
 exact get_value (X.keeps R.base) (inst_at i1 i3) N.cls.ga (own_find N (y1 ▸ look_isSome i2d i2k i2m)) (handed_vr y2) (ok_at hq R y2)
theorem osa_field {s:Shared} {x dx C:Addr} {o:Obj} {f:Str -> Option Value} {name:Str} {tk:Tok} {v:Value} {Z:Result -> Shared -> Prop} (X:K.In s.heap) (N:NameOk K C name) (hx:s.heap.get? x = some (instObj C dx)) (hd:s.heap.get? dx = some o) (hns:s.heap.Ns1 dx f) {nn:List Str} (hw:Within f nn) (hb:nn.length < big)
  (hQ:∀ h' t,h'.Ns1 dx (fun y => if y = name then some v else f y) -> Heap.SameBut dx s.heap h' -> Z (.ok (.ret .none)) { s with heap:=h',toks:=t }) :
  codeAny b.M A (.call (.builtin "object.__setattr__") ⟨[.ref x,.str name tk,v],[]⟩) Z s:=by
 refine osa_open X (inst_at hx hd) N.cls.over (by unfold takerIn; rw [N.no]; rfl) fun b => ?_
 obtain ⟨cd,hc,hd'⟩:=any_some N.cls.dict
 refine wpAny_bind (wpAny_pure (wpAny_bind (wpAny_bind (wpAny_loadPart hx (wpAny_bind ((looks_clsIn X hc).here ?_))))))
 rw [hd']
 refine wpAny_pure (a:=some dx) (wpAny_bind (wpAny_pure (wpAny_bind (wpAny_nsSet1 hns fun h' n1 n2 => wpAny_bind ?_))))
 obtain ⟨o',es,ep,e1,e2,hc⟩:=n1.count (hw.cons name v)
 exact wpAny_lookBehind e1 (by rw [e2]; exact pastItsLine_dict (Nat.le_trans hc (Nat.le_trans hb (Nat.le_trans big_le (Nat.le_succ _))))) (wpAny_pure (hQ h' _ n1 n2))
theorem lookup_upd {fs:Locs} {x y:Str} {v:V}:(upd fs x v).lookup y = if y = x then some v else fs.lookup y:=by
 induction fs with
 | nil =>
  rw [upd,List.lookup,List.lookup]
  by_cases q:y = x
  ·subst q; rw [beq_self_eq_true,if_pos rfl]
  ·rw [beq_eq_false_iff_ne.mpr q,if_neg q]; rfl
 | cons p r ih =>
  obtain ⟨z,u⟩:=p
  rw [upd]
  by_cases e:z = x
  ·subst e
   rw [if_pos rfl,List.lookup,List.lookup]
   by_cases q:y = z
   ·subst q; rw [beq_self_eq_true,if_pos rfl]
   ·rw [beq_eq_false_iff_ne.mpr q,if_neg q]
  ·rw [if_neg e,List.lookup,List.lookup]
   by_cases q:y = z
   ·subst q; rw [beq_self_eq_true,if_neg e]
   ·rw [beq_eq_false_iff_ne.mpr q]; exact ih
theorem sound_setattr {cs:List Addr} {a v:V} {va vv:Value} {x:Str} {σ':St} {P:Unit -> Shared -> Prop} (X:K.In b.heap) (hN:∀ c,cs.contains c = true -> NameOk K c x) (R:Rel b m) (ea:VM m a va) (ev:VM m v vv) (q:setAttrF a x cs v m.σ = some σ')
  (hP:∀ m',m'.σ = σ' -> (sio m'.s) = (sio m.s) -> Rel b m' -> Step No m m' -> P () m'.s):wpAny b.M A (setAttr va x vv) P E m.s:=by
 obtain ⟨n,e1,q⟩:=bind_of q
 rw [V.ref_of e1] at ea
 obtain ⟨hn⟩:=ea
 obtain ⟨p,e2,q⟩:=bind_of q
 by_cases hc:cs.contains p.1 = true /\ p.2.length < big
 rotate_left
 ·rw [if_neg hc] at q; cases q
 rw [if_pos hc] at q
 obtain ⟨dx,f,i1,i2,i5,i6,i7⟩:=R.at_ n _ (inst_of e2)
 obtain ⟨o,_,_,i3,_⟩:=id i2
 have N:=hN _ hc.1
 have XK:K.In m.s.heap:=X.keeps R.base
 refine set_plain XK (inst_at i1 i3) N.cls.sa (osa_field (s:={ m.s with toks:=m.s.toks + 1 }) XK N i1 i3 i2 (nn:=p.2.map (·.1)) (fun y hy => ?_) (by rw [List.length_map]; exact hc.2) fun h' t n1 n2 => ?_)
 ·have:=i6 y
  cases z:p.2.lookup y with
  | none => rw [z] at this; exact absurd this hy
  | some v => exact List.mem_map.mpr ⟨(y,v),mem_of_lookup_some z,rfl⟩
 have hk:∀ y o',¬ m.g.ow n y -> m.s.heap.get? y = some o' -> h'.get? y = some o':=fun y o' hy e => (n2.2 y fun q => hy (q ▸ (i7 _).mpr (.inr rfl))).trans e
 have ho:∀ y,m.g.ow n y -> m.g.ow n y \/ m.s.heap.get? y = none:=fun y hy => .inl hy
 have S:=step_set R (own:=m.g.ow n) hn hk (fun y o' hy e => (Classical.em (y = dx)).elim (fun q => by obtain ⟨o2,_,_,e2,_⟩:=n1; exact ⟨o2,q ▸ e2⟩) fun q => ⟨o',(n2.2 y q).trans e⟩) ho
 have T:Step No m ⟨m.σ.set n (.inst p.1 (upd p.2 x v)),m.g.put n (m.g.ow n),{ m.s with heap:=h',toks:=t }⟩:=S
 refine hP ⟨_,m.g.put n (m.g.ow n),{ m.s with heap:=h',toks:=t }⟩ (Option.some.inj q) rfl (R.set hn rfl hk S ho ⟨dx,_,(n2.2 _ i5).trans i1,n1,i5,fun y => ?_,i7⟩) S
 rw [lookup_upd]
 by_cases q:y = x
 ·rw [if_pos q,if_pos q]; exact ⟨vv,rfl,Step.vr T R ev⟩
 ·rw [if_neg q,if_neg q]; exact (i6 y).mono fun _ _ z => Step.vr T R z
end
section
variable {b:Hb} {m:Ms} {A:Around} {E:Value -> Shared -> Prop} {Q:V -> St -> Prop}
theorem KVs.keys {P:V -> Value -> Prop} {kvs:List (Str × V)}:∀ {f:List (Str × Value)},KVs P kvs f -> f.map (·.1) = kvs.map (·.1):=by
 induction kvs with
 | nil => intro f e; cases e; rfl
 | cons p r ih => intro f e; obtain ⟨x,xs,_,e2⟩:=e; exact congrArg (p.1 :: ·) (ih e2)
theorem KVs.length {P:V -> Value -> Prop} {kvs:List (Str × V)} {f:List (Str × Value)} (e:KVs P kvs f):f.length = kvs.length:=by
 have:=congrArg List.length e.keys
 simpa using this
theorem a1_inv {args:List V} {vals:List Value} {f:V -> Out} {v:V} {σ':St} {G:Prop} (q:a1 args .bad f = .ok v σ') (e:VMs m args vals) (h:∀ u x,vals = [x] -> VM m u x -> f u = .ok v σ' -> G):G:=by
 cases args with
 | nil => cases q
 | cons u r =>
  cases r with
  | nil => obtain ⟨x,xs,e1,e2⟩:=e; cases e2; exact h u x rfl e1 q
  | cons _ _ => cases q
theorem a2_inv {args:List V} {vals:List Value} {f:V -> V -> Out} {v:V} {σ':St} {G:Prop} (q:a2 args .bad f = .ok v σ') (e:VMs m args vals) (h:∀ u w x y,vals = [x,y] -> VM m u x -> VM m w y -> f u w = .ok v σ' -> G):G:=by
 cases args with
 | nil => cases q
 | cons u r =>
  cases r with
  | nil => cases q
  | cons w r =>
   cases r with
   | nil => obtain ⟨x,_,e1,⟨y,_,e2,e3⟩⟩:=e; cases e3; exact h u w x y rfl e1 e2 q
   | cons _ _ => cases q
theorem fits63 {n:Nat} (h:n <= big):((n:Int) < 2 ^ 63):=Int.lt_of_le_of_lt (Int.ofNat_le.mpr h) (by decide)
theorem ok_int {v:V} {σ':St} {i:Int} {t:Nat} {u:Tok} (e:V.int i = v /\ m.σ = σ') (hq:Q v σ') (R:Rel b m):OK b Q m (.int i u) { m.s with toks:=t }:=by
 obtain ⟨rfl,rfl⟩:=e
 exact ok_at hq R ⟨_⟩
theorem len_ok {u v:V} {x:Value} {σ':St} (R:Rel b m) (e:VM m u x) (q:(oO (lenF m.σ u) fun n => okI (n <= big) (.int n) m.σ) = .ok v σ') (hq:Q v σ'):wpAny b.M A (call (.builtin "len") [x]) (OK b Q m) E m.s:=by
 obtain ⟨n,e1,q⟩:=oO_inv q
 obtain ⟨hn,q⟩:=okI_inv q
 have hl:(getL m.σ u).map List.length = some n -> wpAny b.M A (call (.builtin "len") [x]) (OK b Q m) E m.s:=fun e1 => by
  obtain ⟨l,e2,rfl⟩:=Option.map_eq_some_iff.mp e1
  obtain ⟨a,items,p,r⟩:=getL_lists R e e2
  rw [<- r.size] at hn q
  exact len_list p.isList (fits63 hn) (ok_int q hq R)
 cases u with
 | str s => cases e1; obtain ⟨t,ok⟩:=e; exact P.len_str (Int.not_le.mpr (fits63 hn)) (ok_int q hq R)
 | tup l =>
  cases e1; obtain ⟨a,items,p,r⟩:=e
  rw [<- r.size] at hn q
  exact len_tuple p.isTuple (fits63 hn) (ok_int q hq R)
 | _ => exact hl e1
theorem int_ok {u v:V} {x:Value} {σ':St} (R:Rel b m) (e:VM m u x) (q:intF u m.σ = .ok v σ') (hq:Q v σ'):wpAny b.M A (call (.type "int") [x]) (OK b Q m) E m.s:=by
 cases u with
 | int i => cases q; obtain ⟨t⟩:=e; exact call_int_int (ok_at hq R ⟨_⟩)
 | bool c => cases q; cases e; exact call_int_bool (ok_at hq R ⟨_⟩)
 | str s =>
  obtain ⟨t,_⟩:=e
  have q:(if s = "9" then Out.ok (.int 9) m.σ else if s = "10" then .ok (.int 10) m.σ else okI (s = "13") (.int 13) m.σ) = .ok v σ':=q
  by_cases h1:s = "9"
  ·rw [if_pos h1] at q; cases q; subst h1
   exact KIN.call_num (n:=9) (by decide) (by decide) (ok_at hq R ⟨_⟩)
  ·rw [if_neg h1] at q
   by_cases h2:s = "10"
   ·rw [if_pos h2] at q; cases q; subst h2
    exact KIN.call_num (n:=10) (by decide) (by decide) (ok_at hq R ⟨_⟩)
   ·rw [if_neg h2] at q
    obtain ⟨h3,q3⟩:=okI_inv q
    subst h3
    exact KIN.call_num (n:=13) (by decide) (by decide) (ok_int q3 hq R)
 | _ => cases q
theorem range_ok {args:List V} {vals:List Value} {v:V} {σ':St} (R:Rel b m) (ea:VMs m args vals) (q:rngF args m.σ = .ok v σ') (hq:Q v σ'):wpAny b.M A (call (.type "range") vals) (OK b Q m) E m.s:=by
 cases args with
 | nil => cases q
 | cons a r =>
  obtain ⟨x,_,e1,ea⟩:=ea
  cases r with
  | nil =>
   cases ea
   refine oO_int q e1 fun i t e q => ?_
   obtain ⟨_,rfl,rfl⟩:=okI_inv q
   subst e
   exact call_range_1 (ok_push hq R ⟨_,_,_,_,Heap.get?_push_size _ rfl⟩)
  | cons c r =>
   obtain ⟨y,_,e2,ea⟩:=ea
   cases r with
   | nil => cases q
   | cons d r =>
    obtain ⟨z,_,e3,ea⟩:=ea
    cases r with
    | cons _ _ => cases q
    | nil =>
     cases ea
     refine oO_int q e1 fun i t e q => oO_int q e2 fun j u e' q => oO_int q e3 fun k w e'' q => ?_
     obtain ⟨hc,rfl,rfl⟩:=okI_inv q
     subst e e' e''
     exact call_range_3 (Int.ne_of_gt hc.2.2.1) (ok_push hq R ⟨_,_,_,_,Heap.get?_push_size _ rfl⟩) (.inl (no_pylong (by have hb:big = 1000000:=rfl; omega)))
theorem strs3 {i:Int} (h:i = 9 \/ i = 10 \/ i = 13):PyData.strOk (Str.ofString (toString i)) = true:=by rcases h with rfl | rfl | rfl <;> decide +kernel
noncomputable def BF.val:BF -> Value
 | .len => .builtin "len" | .chr => .builtin "chr" | .ord => .builtin "ord" | .max => .builtin "max"
 | .int => .type "int" | .str => .type "str" | .list => .type "list" | .tuple => .type "tuple" | .dict => .type "dict" | .range => .type "range"
theorem sound_bf {mk:Bool} {f:BF} {args:List V} {vals:List Value} {v:V} {σ':St} (hh:A.handled = none) (hz:SysAt b) (R:Rel b m) (ea:VMs m args vals) (q:bfF mk f args m.σ = .ok v σ') (hq:Q v σ') :
  wpAny b.M A (call f.val vals) (OK b Q m) E m.s:=by
 cases f with
 | len => refine a1_inv q ea fun u x e e1 q => ?_; subst e; exact len_ok R e1 q hq
 | chr =>
  refine a1_inv q ea fun u x e e1 q => oO_int q e1 fun i t e' q => ?_
  subst e e'
  obtain ⟨hi,rfl,rfl⟩:=okI_inv q
  exact P.chr_of_int (by simp; lia) (ok_at hq R ⟨_,by simp [PyData.strOk]; lia⟩)
 | ord =>
  refine a1_inv q ea fun u x e e1 q => oO_str q e1 fun s t e' ok q => ?_
  subst e e'
  obtain ⟨c,e2,q⟩:=oO_inv q
  cases q
  have:s = ⟨#[c]⟩:=by
   obtain ⟨⟨l⟩⟩:=s
   cases l with
   | nil => cases e2
   | cons d r => cases r <;> cases e2; rfl
  subst this
  exact P.ord_of_char (ok_at hq R ⟨_⟩)
 | max =>
  refine a2_inv q ea fun u w x y e e1 e2 q => int2_inv q e1 e2 fun i j t t' e' e'' q => ?_
  subst e e' e''
  cases q
  refine max_two_ints hh fun h' tk hk => ?_
  by_cases c:j > i
  ·rw [if_pos c]
   have e:max i j = j:=by lia
   rw [e] at hq
   exact ok_grown rfl hk hq R ⟨t'⟩
  ·rw [if_neg c]
   have e:max i j = i:=by lia
   rw [e] at hq
   exact ok_grown rfl hk hq R ⟨t⟩
 | int => refine a1_inv q ea fun u x e e1 q => ?_; subst e; exact int_ok R e1 q hq
 | str =>
  refine a1_inv q ea fun u x e e1 q => oO_int q e1 fun i t e' q => ?_
  subst e e'
  obtain ⟨hi,rfl,rfl⟩:=okI_inv q
  exact PySem.P.str_of_int (by rcases hi with rfl | rfl | rfl <;> decide) (ok_at hq R ⟨_,strs3 hi⟩)
 | list =>
  refine a1_inv q ea fun u x e e1 q => ?_
  subst e
  obtain ⟨l,e2,q⟩:=oO_inv q
  obtain ⟨a,items,⟨k,hp⟩,r⟩:=getL_lists R e1 e2
  exact call_list_seq a (.inl rfl) hp rfl rfl (fun h' c' hk hD => ok_newLat q hq rfl R r hk ⟨c',by simpa using hD⟩) (by rw [r.size]; exact Nat.le_trans (okL_len q) big_le)
 | tuple =>
  refine a1_inv q ea fun u x e e1 q => ?_
  subst e
  obtain ⟨l,e2,q⟩:=oO_inv q
  obtain ⟨hb,rfl,rfl⟩:=okI_inv q
  obtain ⟨a,items,hp,r⟩:=getL_lists R e1 e2
  refine call_tuple_list hp.isList (fun h' hk => ?_) (by rw [r.size]; exact Nat.le_trans hb big_le)
  have hk':Grown m.s.heap (h'.push { cls:=.type "tuple",data:=.seq items }):=fun a o e => Heap.get?_push_of_some _ (hk a o e)
  exact ok_grown rfl hk' hq R ⟨_,_,⟨0,Heap.get?_push_size _ rfl⟩,VMs.grown (σ:=m.σ) (s':={ m.s with heap:=h'.push { cls:=.type "tuple",data:=.seq items } }) hk' r⟩
 | dict =>
  refine a1_inv q ea fun u x e e1 q => ?_
  subst e
  obtain ⟨kvs,e2,q⟩:=oO_inv q
  obtain ⟨hb,q⟩:=if_inv (α:=V) q
  cases q
  obtain ⟨n,e3,e2⟩:=bind_of e2
  rw [V.ref_of e3] at e1
  obtain ⟨hn⟩:=e1
  obtain ⟨f,d1,d2,hw⟩:=R.at_ n _ (dictAt_of e2)
  exact kt_call_dict (R.not_sys hz hn ((hw _).mpr rfl)) d1 (by rw [d2.length]; exact Nat.le_trans hb big_le) fun h' e1 e2 => ok_newD hq rfl R d2 (fun a o e => (e2.2 a (Nat.ne_of_lt (Heap.lt_size e))).trans (Heap.get?_push_of_some _ e)) e1
 | range => exact range_ok R ea q hq
end
section
theorem strOk_sub {x:Str} (hx:PyData.strOk x = true) (i j:Nat):PyData.strOk (Builtin.Str.strSub x i j) = true:=by
 unfold PyData.strOk at *
 rw [Array.all_eq_true'] at hx ⊢
 intro c hc
 refine hx c (Array.mem_toList_iff.mp ?_)
 have:c ∈ (Builtin.Str.strSub x i j).cps.toList:=Array.mem_toList_iff.mpr hc
 rw [StrLaws.strSub_toList] at this
 exact List.mem_of_mem_drop (List.mem_of_mem_take this)
theorem strOk_parts {x:Str} (hx:PyData.strOk x = true) (cuts:List Nat) (wd:Nat):∀ p ∈ Builtin.Str.partsBetween x cuts wd,PyData.strOk p = true:=fun p hp => by
 unfold Builtin.Str.partsBetween at hp
 obtain ⟨ij,_,rfl⟩:=List.mem_map.mp hp
 exact strOk_sub hx _ _
theorem strOk_if {x:Str} {c1 c2:Prop} [Decidable c1] [Decidable c2] {l:List Str} (hx:PyData.strOk x = true) (hl:∀ p ∈ l,PyData.strOk p = true):∀ p ∈ (if c1 then [x] else if c2 then [x] else l),PyData.strOk p = true:=fun p hp => by
 have one:p ∈ [x] -> PyData.strOk p = true:=fun h => List.mem_singleton.mp h ▸ hx
 by_cases q:c1
 ·rw [if_pos q] at hp; exact one hp
 ·rw [if_neg q] at hp
  by_cases q:c2
  ·rw [if_pos q] at hp; exact one hp
  ·rw [if_neg q] at hp; exact hl p hp
theorem strOk_split {x y:Str} (hx:PyData.strOk x = true):∀ p ∈ Txt.split x y,PyData.strOk p = true:=strOk_if hx (strOk_parts hx _ _)
theorem strOk_splitMax {x y:Str} (hx:PyData.strOk x = true) (k:Int):∀ p ∈ Txt.splitMax x y k,PyData.strOk p = true:=strOk_if hx (strOk_parts hx _ _)
theorem strOk_join {x:Str} (hx:PyData.strOk x = true) {l:List Str}:(∀ p ∈ l,PyData.strOk p = true) -> PyData.strOk (Str.join x l) = true:=by
 induction l with
 | nil => exact fun _ => (by simp [PyData.strOk,Str.empty]:PyData.strOk Str.empty = true)
 | cons a r ih =>
  intro h
  cases r with
  | nil => exact h a (.head _)
  | cons c r => exact strOk_append (strOk_append (h a (.head _)) hx) (ih fun p hp => h p (.tail _ hp))
theorem vrs_strs {h:Heap} {U:Addr -> Prop} {T:Nat -> Value -> Prop} (l:List (Str × Tok)):(∀ p ∈ l,PyData.strOk p.1 = true) -> VRs h U T ((l.map (·.1)).map .str) (strValues l):=by
 induction l with
 | nil => exact fun _ => rfl
 | cons p r ih => exact fun ho => ⟨_,_,⟨p.2,ho _ (.head _)⟩,ih fun p hp => ho p (.tail _ hp)⟩
inductive StrsR (ss:List Str):List Value -> Prop | mk (ls:List (Str × Tok)) (e:ls.map (·.1) = ss) (ok:∀ p ∈ ss,PyData.strOk p = true):StrsR ss (strValues ls)
theorem strs_values {h:Heap} {U:Addr -> Prop} {T:Nat -> Value -> Prop} {l:List V}:∀ {x:List Value} {ss:List Str},strsOf l = some ss -> VRs h U T l x -> StrsR ss x:=by
 induction l with
 | nil => intro x ss q e; cases q; cases e; exact ⟨[],rfl,fun _ hp => nomatch hp⟩
 | cons v r ih =>
  intro x ss q e
  obtain ⟨s,rs,rfl,q1,rfl⟩:=strsOf_cons q
  obtain ⟨y,ys,⟨t,ok⟩,e2⟩:=e
  obtain ⟨ls,h2,h3⟩:=ih q1 e2
  exact .mk ((s,t) :: ls) (congrArg (s :: ·) h2) fun p hp => (List.mem_cons.mp hp).elim (fun e => e ▸ ok) (h3 p)
section
variable {b:Hb} {m:Ms} {A:Around} {E:Value -> Shared -> Prop} {Q:V -> St -> Prop}
open PySem.Builtin PySem.Builtin.Str
theorem gives_index_from (x y:Str) (i:Int) (t u v:Tok) (k:Nat) (rest:List Nat) (h:occurrences x y (fromIndex x.length i) x.length 1 = k :: rest):Gives (Builtin.«str.index» ⟨[.str x t,.str y u,.int i v],[]⟩) (.int k):=by
 show Gives (match occurrences x y (fromIndex x.length i) (min x.length x.length) 1 with | k :: _ => retInt k | [] => (do rule "str.index.not-found"; raiseError "ValueError" "substring not found")) _
 rw [Nat.min_self,h]
 exact .of_eq rfl
theorem split_len {x:Str} {k:Nat} {y:Str} (hz:x.length <= big):(partsBetween x (occurrences x y 0 x.length k) y.length).length <= sizeLine:=by
 have e1:=StrLaws.occ_length_le_len x y 0 x.length k
 rw [length_partsBetween]
 have:big + 2 <= sizeLine:=by rw [sizeLine_eq]; decide
 lia
theorem split_call {s:Shared} {x y:Str} {t u:Tok} {P:Value -> Shared -> Prop} (hy:(y.length == 0) = false) (hz:x.length <= big)
  (hP:∀ l tk,l.map (·.1) = Txt.split x y -> P (.ref s.heap.objs.size) { s with heap:=s.heap.push { cls:=.type "list",data:=.seq (strValues l).toArray },toks:=tk }) :
  wpAny b.M A (call (.builtin "str.split") [.str x t,.str y u]) P E s:=by
 cases h1:(decide (x.length < y.length) || decide (PySem.Builtin.Str.strKind x < PySem.Builtin.Str.strKind y))
 ·cases hf:(occurrences x y 0 x.length (x.length + 1)).isEmpty
  ·refine call_meets F.slot_str_split (typeIs_str _ _ _) F.entry_str_split (F.args_str_split_2 _ _) (meets_str_split_sep x y t u h1 hy hf (Nat.le_trans hz big_le) (split_len hz)) ?_
   show wants P E _ { s with toks:=_,heap:=s.heap.push { cls:=.type "list",data:=.seq (strsFrom s.toks (partsBetween x (occurrences x y 0 x.length (x.length + 1)) y.length)).toArray } }
   rw [strsFrom_eq]
   exact hP (numbered s.toks _) _ ((numbered_texts _ _).trans ((if_neg (ne_true_of_eq_false h1)).trans (if_neg (ne_true_of_eq_false hf))).symm)
  ·exact call_meets F.slot_str_split (typeIs_str _ _ _) F.entry_str_split (F.args_str_split_2 _ _) (meets_str_split_not_found x y t u h1 hy hf)
    (hP [(x,t)] s.toks ((if_neg (ne_true_of_eq_false h1)).trans (if_pos hf)).symm)
 ·exact call_meets F.slot_str_split (typeIs_str _ _ _) F.entry_str_split (F.args_str_split_2 _ _) (meets_str_split_cannot_occur x y t u h1)
   (hP [(x,t)] s.toks (if_pos h1).symm)
theorem split1_call {s:Shared} {x y:Str} {t u v:Tok} {P:Value -> Shared -> Prop} (hy:(y.length == 0) = false) (hz:x.length <= big)
  (hP:∀ l tk,l.map (·.1) = Txt.splitMax x y 1 -> P (.ref s.heap.objs.size) { s with heap:=s.heap.push { cls:=.type "list",data:=.seq (strValues l).toArray },toks:=tk }) :
  wpAny b.M A (call (.builtin "str.split") [.str x t,.str y u,.int 1 v]) P E s:=by
 have hk:(decide ((1:Int) < -(2 ^ 63:Int)) || decide ((1:Int) ≥ 2 ^ 63)) = false:=by decide
 cases h1:(decide (x.length < y.length) || decide (PySem.Builtin.Str.strKind x < PySem.Builtin.Str.strKind y))
 ·cases hf:(occurrences x y 0 x.length (limitOf x 1)).isEmpty
  ·refine call_meets F.slot_str_split (typeIs_str _ _ _) F.entry_str_split (F.args_str_split_3 _ _ _) (meets_str_split_sep_max x y 1 t u v hk h1 hy hf (Nat.le_trans hz big_le) (split_len hz)) ?_
   show wants P E _ { s with toks:=_,heap:=s.heap.push { cls:=.type "list",data:=.seq (strsFrom s.toks (partsBetween x (occurrences x y 0 x.length (limitOf x 1)) y.length)).toArray } }
   rw [strsFrom_eq]
   exact hP (numbered s.toks _) _ ((numbered_texts _ _).trans ((if_neg (ne_true_of_eq_false h1)).trans (if_neg (ne_true_of_eq_false hf))).symm)
  ·exact call_meets F.slot_str_split (typeIs_str _ _ _) F.entry_str_split (F.args_str_split_3 _ _ _) (meets_str_split_max_not_found x y 1 t u v hk h1 hy hf)
    (hP [(x,t)] s.toks ((if_neg (ne_true_of_eq_false h1)).trans (if_pos hf)).symm)
 ·exact call_meets F.slot_str_split (typeIs_str _ _ _) F.entry_str_split (F.args_str_split_3 _ _ _) (meets_str_split_max_cannot_occur x y 1 t u v hk h1)
   (hP [(x,t)] s.toks (if_pos h1).symm)
theorem pop_call {s:Shared} {l:Addr} {items:Array Value} {x:Value} {P:Value -> Shared -> Prop} (hl:s.heap.PlainList l items) (hx:items[items.size - 1]? = some x) (hz:items.size <= sizeLine)
  (hP:∀ h',h'.PlainList l (items.eraseIdxIfInBounds (items.size - 1)) -> Heap.SameBut l s.heap h' -> P x { s with heap:=h' }):wpAny b.M A (call (.builtin "list.pop") [.ref l]) P E s:=by
 obtain ⟨n,hl⟩:=hl
 exact call_meets PySem.F.slot_list_pop ⟨_,hl,rfl⟩ PySem.F.entry_list_pop (PySem.F.args_list_pop_1 _) (PySem.MeetsSeq.list_pop_last l items n x hx hz) ⟨hl,hP _ ⟨_,Heap.get?_update_self _ hl rfl⟩ (Heap.SameBut.update ..)⟩
theorem Rel.setOne (R:Rel b m) {n:Nat} {c c':Cell} {s':Shared} (e:m.σ[n]? = some c) (hw:∀ x,m.g.ow n x ↔ x = m.g.ρ n) (io:(sio s') = (sio m.s)) (hs:Heap.SameBut (m.g.ρ n) m.s.heap s'.heap) (hp:∃ o,s'.heap.get? (m.g.ρ n) = some o)
  (hc:Step No m ⟨m.σ.set n c',m.g.put n (m.g.ow n),s'⟩ -> CellAt b s'.heap (m.g.put n (m.g.ow n)).free (m.g.put n (m.g.ow n)).at c' (m.g.ρ n) (m.g.ow n)):Rel b ⟨m.σ.set n c',m.g.put n (m.g.ow n),s'⟩ /\ Step No m ⟨m.σ.set n c',m.g.put n (m.g.ow n),s'⟩:=by
 have hk:∀ y o',¬ m.g.ow n y -> m.s.heap.get? y = some o' -> s'.heap.get? y = some o':=fun y o' hy e => (hs.2 y fun q => hy (q ▸ (hw _).mpr rfl)).trans e
 have S:=step_set R (own:=m.g.ow n) (R.get e) hk (fun y o' hy _ => (hw y).mp hy ▸ hp) fun y hy => .inl hy
 exact ⟨R.set (R.get e) io hk S (fun y hy => .inl hy) (hc S),S⟩
theorem Rel.setList (R:Rel b m) {n:Nat} {l l':List V} {items:Array Value} {s':Shared} (e:m.σ[n]? = some (.list l)) (io:(sio s') = (sio m.s)) (hs:Heap.SameBut (m.g.ρ n) m.s.heap s'.heap) (hp:s'.heap.PlainList (m.g.ρ n) items) (hv:VMs m l' items.toList) :
  Rel b ⟨m.σ.set n (.list l'),m.g.put n (m.g.ow n),s'⟩ /\ Step No m ⟨m.σ.set n (.list l'),m.g.put n (m.g.ow n),s'⟩:=by
 obtain ⟨_,_,_,hw⟩:=R.at_ n _ e
 exact R.setOne e hw io hs (hp.elim fun _ q => ⟨_,q⟩) fun S => ⟨_,hp,Step.vrs S R hv,hw⟩
theorem Rel.setDict (R:Rel b m) {n:Nat} {l l':List (Str × V)} {f:List (Str × Value)} {s':Shared} (e:m.σ[n]? = some (.dict l)) (io:(sio s') = (sio m.s)) (hs:Heap.SameBut (m.g.ρ n) m.s.heap s'.heap) (hp:s'.heap.DictOf (SK b.w) (m.g.ρ n) f) (hv:KVs (VM m) l' f) :
  Rel b ⟨m.σ.set n (.dict l'),m.g.put n (m.g.ow n),s'⟩ /\ Step No m ⟨m.σ.set n (.dict l'),m.g.put n (m.g.ow n),s'⟩:=by
 obtain ⟨_,_,_,hw⟩:=R.at_ n _ e
 exact R.setOne e hw io hs (let ⟨o,_,_,q,_⟩:=hp; ⟨o,q⟩) fun S => ⟨_,hp,hv.mono fun _ _ z => Step.vr S R z,hw⟩
theorem vrs_snoc {h:Heap} {U:Addr -> Prop} {T:Nat -> Value -> Prop} {l:List V}:∀ {v:V} {x:List Value},VRs h U T (l ++ [v]) x -> ∃ xs y,x = xs ++ [y] /\ VRs h U T l xs /\ VR h U T v y:=by
 induction l with
 | nil => intro v x e; obtain ⟨y,ys,e1,e2⟩:=e; cases e2; exact ⟨[],y,rfl,rfl,e1⟩
 | cons u l ih =>
  intro v x e
  obtain ⟨y,ys,e1,e2⟩:=e
  obtain ⟨xs,z,rfl,e3,e4⟩:=ih e2
  exact ⟨y :: xs,z,rfl,⟨y,xs,e1,e3⟩,e4⟩
noncomputable def BM.ty:BM -> String
 | .split => "str" | .index => "str" | .join => "str" | .pop => "list" | .append => "list" | .get => "dict"
noncomputable def BM.nm:BM -> Str
 | .split => "split" | .index => "index" | .join => "join" | .pop => "pop" | .append => "append" | .get => "get"
noncomputable def BM.id:BM -> String
 | .split => "str.split" | .index => "str.index" | .join => "str.join" | .pop => "list.pop" | .append => "list.append" | .get => "dict.get"
theorem bm_split {mk:Bool} {x:Str} {t:Tok} {args:List V} {vals:List Value} {v:V} {σ':St} (ok:PyData.strOk x = true) (R:Rel b m) (es:VMs m args vals) (q:splitF mk x args m.σ = .ok v σ') (hq:Q v σ'):wpAny b.M A (call (.builtin "str.split") (.str x t :: vals)) (OK b Q m) E m.s:=by
 cases args with
 | nil => cases q
 | cons y r =>
  obtain ⟨vy,_,ey,es⟩:=es
  cases r with
  | nil =>
   cases es
   refine oO_str q ey fun y u e oky q => ?_
   subst e
   obtain ⟨⟨hy,hb⟩,q⟩:=if_inv (α:=V) q
   refine split_call (by rw [hy]; rfl) hb fun l tk hl => ok_newL q hq R ?_
   rw [<- hl]
   exact vrs_strs l fun p hp => strOk_split ok p.1 (hl ▸ List.mem_map_of_mem hp)
  | cons k r =>
   obtain ⟨vk,_,ek,es⟩:=es
   cases r with
   | cons _ _ => cases q
   | nil =>
    cases es
    refine oO_str q ey fun y u e oky q => ?_
    subst e
    obtain ⟨⟨hy,hk,hb⟩,q⟩:=if_inv (α:=V) q
    rw [V.int_of hk] at ek
    obtain ⟨tk⟩:=ek
    refine split1_call (by rw [hy]; rfl) hb fun l tk hl => ok_newL q hq R ?_
    rw [<- hl]
    exact vrs_strs l fun p hp => strOk_splitMax ok _ p.1 (hl ▸ List.mem_map_of_mem hp)
theorem sIdx_inv {x y:Str} {k i:Nat} (h:sIdx x y k = some i):∃ r,occurrences x y k x.length 1 = i :: r:=by
 unfold sIdx at h
 cases ho:occurrences x y k x.length 1 with
 | nil => rw [ho] at h; cases h
 | cons j r => rw [ho] at h; cases h; exact ⟨r,rfl⟩
theorem bm_index {x:Str} {t:Tok} {args:List V} {vals:List Value} {v:V} {σ':St} (R:Rel b m) (es:VMs m args vals) (q:indexF x args m.σ = .ok v σ') (hq:Q v σ'):wpAny b.M A (call (.builtin "str.index") (.str x t :: vals)) (OK b Q m) E m.s:=by
 cases args with
 | nil => cases q
 | cons y r =>
  obtain ⟨vy,_,ey,es⟩:=es
  cases r with
  | nil =>
   cases es
   refine oO_str q ey fun y u e oky q => ?_
   subst e
   obtain ⟨i,hi,q⟩:=oO_inv q
   cases q
   obtain ⟨r,ho⟩:=sIdx_inv hi
   exact SC.index ho (ok_at hq R ⟨_⟩)
  | cons k r =>
   obtain ⟨vk,_,ek,es⟩:=es
   cases r with
   | cons _ _ => cases q
   | nil =>
    cases es
    refine oO_str q ey fun y u e oky q => oO_int q ek fun k tk e' q => ?_
    subst e e'
    obtain ⟨hk,q⟩:=if_inv (α:=V) q
    obtain ⟨i,hi,q⟩:=oO_inv q
    cases q
    obtain ⟨r,ho⟩:=sIdx_inv hi
    have hf:fromIndex x.length k = k.toNat:=by unfold fromIndex; rw [if_neg (Int.not_lt.mpr hk),Int.max_eq_right hk]
    exact call_gives F.slot_str_index (typeIs_str _ _ _) F.entry_str_index (F.args_str_index_3 _ _ _) (gives_index_from x y k t u tk _ r (by rw [hf]; exact ho)) (ok_at hq R ⟨_⟩)
theorem bm_pop {n:Nat} {l:List V} {v:V} (R:Rel b m) (e:m.σ[n]? = some (.list l)) (hv:l.getLast? = some v) (hb:l.dropLast.length < big) (hq:Q v (m.σ.set n (.list l.dropLast))):wpAny b.M A (call (.builtin "list.pop") [.ref (m.g.ρ n)]) (OK b Q m) E m.s:=by
 obtain ⟨items,hp,r,hw⟩:=R.at_ n _ e
 obtain ⟨l0,hl⟩:=List.getLast?_eq_some_iff.mp hv
 subst hl
 rw [List.dropLast_concat] at hb hq
 obtain ⟨xs,y,e1,e2,e3⟩:=vrs_snoc r
 have hi:items = (xs ++ [y]).toArray:=by rw [<- e1]
 subst hi
 have hsz:(xs ++ [y]).toArray.size - 1 = xs.length:=by simp
 refine pop_call (x:=y) hp (by rw [hsz]; simp) (by rw [r.size,List.length_append]; exact Nat.le_trans hb big_le) fun h' p1 p2 => ?_
 obtain ⟨R',S⟩:=R.setList (s':={ m.s with heap:=h' }) (l':=l0) e rfl p2 p1 (by rw [hsz]; simp [List.eraseIdx_append_of_length_le]; exact e2)
 exact ⟨v,_,_,hq,R',Step.vr S R e3,S⟩
theorem bm_append {n:Nat} {l:List V} {v:V} {vv:Value} (R:Rel b m) (e:m.σ[n]? = some (.list l)) (ev:VM m v vv) (hb:l.length < big) (hq:Q .none (m.σ.set n (.list (l ++ [v])))):wpAny b.M A (call (.builtin "list.append") [.ref (m.g.ρ n),vv]) (OK b Q m) E m.s:=by
 obtain ⟨items,hp,r,hw⟩:=R.at_ n _ e
 refine wpAny_list_append_plain hp (fun h' p1 p2 => ?_) (by rw [r.size]; exact Nat.le_trans (Nat.le_of_lt hb) big_le)
 obtain ⟨R',S⟩:=R.setList (s':={ m.s with heap:=h' }) (l':=l ++ [v]) e rfl p2 p1 (by rw [Array.toList_push]; exact r.append ⟨_,_,ev,rfl⟩)
 exact ⟨.none,_,_,hq,R',rfl,S⟩
theorem bm_get {n:Nat} {kvs:List (Str × V)} {args:List V} {vals:List Value} {v:V} {σ':St} (hz:SysAt b) (R:Rel b m) (e:m.σ[n]? = some (.dict kvs)) (es:VMs m args vals) (q:getD kvs args m.σ = .ok v σ') (hq:Q v σ'):wpAny b.M A (call (.builtin "dict.get") (.ref (m.g.ρ n) :: vals)) (OK b Q m) E m.s:=by
 obtain ⟨f,d1,d2,hw⟩:=R.at_ n _ e
 have hs:=R.not_sys hz (R.get e) ((hw _).mpr rfl)
 cases args with
 | nil => cases q
 | cons y r =>
  obtain ⟨vy,_,ey,es⟩:=es
  cases r with
  | nil =>
   cases es
   refine oO_str q ey fun s u e oky q => ?_
   subst e
   cases q
   refine call_meetsIn F.slot_dict_get d1.mapOf.typeIs F.entry_dict_get (F.args_dict_get_2 _ _) (meets_dict_get _ _ str_key hs) ⟨_,d1.mapOf,ok_at hq R ?_⟩
   cases z:kvs.lookup s with
   | none => rw [kvs_none d2 z]; exact rfl
   | some u => obtain ⟨y,y1,y2⟩:=kvs_some d2 z; rw [y1]; exact y2
  | cons d r =>
   obtain ⟨vd,_,ed,es⟩:=es
   cases r with
   | cons _ _ => cases q
   | nil =>
    cases es
    refine oO_str q ey fun s u e oky q => ?_
    subst e
    cases q
    refine call_meetsIn F.slot_dict_get d1.mapOf.typeIs F.entry_dict_get (F.args_dict_get_3 _ _ _) (meets_dict_get_default _ _ str_key hs _) ⟨_,d1.mapOf,ok_at hq R ?_⟩
    cases z:kvs.lookup s with
    | none => rw [kvs_none d2 z]; exact ed
    | some u => obtain ⟨y,y1,y2⟩:=kvs_some d2 z; rw [y1]; exact y2
theorem ref_inv {a v:V} {va:Value} {σ':St} {f:Nat -> Out} {G:Prop} (q:oO a.ref? f = .ok v σ') (e:VM m a va) (h:∀ n,va = .ref (m.g.ρ n) -> f n = .ok v σ' -> G):G:=by
 obtain ⟨n,e1,q⟩:=oO_inv q
 rw [V.ref_of e1] at e
 obtain ⟨hn⟩:=e
 exact h n rfl q
theorem sound_bm {mk:Bool} {f:BM} {a v:V} {va:Value} {args:List V} {vals:List Value} {σ':St} (hz:SysAt b) (R:Rel b m) (ea:VM m a va) (es:VMs m args vals) (q:bmF mk f a args m.σ = .ok v σ') (hq:Q v σ'):wpAny b.M A (call (.builtin f.id) (va :: vals)) (OK b Q m) E m.s:=by
 cases f with
 | split => exact oO_str q ea fun x t e ok q => e ▸ bm_split ok R es q hq
 | index => exact oO_str q ea fun x t e ok q => e ▸ bm_index R es q hq
 | join =>
  refine oO_str q ea fun x t e okx q => a1_inv q es fun u y e' ey q => ?_
  subst e e'
  obtain ⟨l,q1,q⟩:=oO_inv q
  obtain ⟨ss,q2,q⟩:=oO_inv q
  obtain ⟨q3,rfl,rfl⟩:=okI_inv q
  obtain ⟨a,items,p,r⟩:=getL_lists R ey q1
  obtain ⟨its⟩:=items
  obtain ⟨ls,e2,e3⟩:=strs_values q2 r
  refine SC.join (l:=ls) (texts:=ss) p.isList e2 q3 fun t' tk => ok_at hq R ⟨_,?_⟩
  show PyData.strOk (glued _ ss) = true
  rw [StrLaws.glued_eq_join]
  exact strOk_join okx e3
 | pop =>
  refine ref_inv q ea fun n e q => ?_
  subst e
  cases args with
  | cons _ _ => cases q
  | nil =>
   cases es
   obtain ⟨l,e1,q⟩:=oO_inv (o:=lstAt m.σ n) q
   obtain ⟨u,e2,q⟩:=oO_inv q
   obtain ⟨hb,rfl,rfl⟩:=okI_inv q
   exact bm_pop R (lstAt_of e1) e2 hb hq
 | append =>
  refine ref_inv q ea fun n e q => a1_inv q es fun u y e' ey q => ?_
  subst e e'
  obtain ⟨l,e1,q⟩:=oO_inv q
  obtain ⟨hb,rfl,rfl⟩:=okI_inv q
  exact bm_append R (lstAt_of e1) ey hb hq
 | get =>
  refine ref_inv q ea fun n e q => ?_
  subst e
  obtain ⟨kvs,e1,q⟩:=oO_inv q
  exact bm_get hz R (dictAt_of e1) es q hq
end
end
inductive View:Expr -> Type
 | const (c:Const) (k:Nat) (p:Pos):View (.Constant c k p)
 | name (x:Str) (p:Pos):View (.Name x p)
 | bin (l:Expr) (op:Operator) (r:Expr) (p:Pos):View (.BinOp l op r p)
 | not (e:Expr) (p:Pos):View (.UnaryOp .Not e p)
 | neg (e:Expr) (p:Pos):View (.UnaryOp .USub e p)
 | bool (op:BoolOp) (es:List Expr) (p:Pos):View (.BoolOp op es p)
 | ife (t b o:Expr) (p:Pos):View (.IfExp t b o p)
 | cmp (l:Expr) (ops:List CmpOp) (cs:List Expr) (p:Pos):View (.Compare l ops cs p)
 | list (es:List Expr) (p:Pos):View (.List es p)
 | tup (es:List Expr) (k:Nat) (p:Pos):View (.Tuple es k p)
 | dict (ks:List (Option Expr)) (es:List Expr) (p:Pos):View (.Dict ks es p)
 | attr (e:Expr) (x:Str) (p:Pos):View (.Attribute e x p)
 | slice (e:Expr) (lo hi st:Option Expr) (q p:Pos):View (.Subscript e (.Slice lo hi st q) p)
 | sub (e i:Expr) (p:Pos) (h:∀ o j,subscripted i false o j = operate [o,j] (getItem o j)):View (.Subscript e i p)
 | callN (f:Str) (q:Pos) (args:List Expr) (kws:List Keyword) (p:Pos):View (.Call (.Name f q) args kws p)
 | callA (o:Expr) (m:Str) (q:Pos) (args:List Expr) (kws:List Keyword) (p:Pos):View (.Call (.Attribute o m q) args kws p)
 | comp (elt:Expr) (x:Str) (q:Pos) (it:Expr) (ifs:List Expr) (ia:Int) (sc:Scope) (p:Pos):View (.ListComp elt [⟨.Name x q,it,ifs,ia⟩] sc p)
 | other (e:Expr):View e
inductive Nm:Expr -> Type
 | nm (x:Str) (p:Pos):Nm (.Name x p)
 | at (o:Expr) (m:Str) (p:Pos):Nm (.Attribute o m p)
 | sl (lo hi st:Option Expr) (p:Pos):Nm (.Slice lo hi st p)
 | no (e:Expr) (h:∀ o j,subscripted e false o j = operate [o,j] (getItem o j)):Nm e
noncomputable def nm (e:Expr):Nm e:=by
 cases e with
 | Name x p => exact .nm x p
 | Attribute o m p => exact .at o m p
 | Slice lo hi st p => exact .sl lo hi st p
 | _ => exact .no _ fun _ _ => rfl
noncomputable def view (e:Expr):View e:=by
 cases e with
 | Constant c k p => exact .const c k p
 | Name x p => exact .name x p
 | BinOp l op r p => exact .bin l op r p
 | UnaryOp op e p =>
  cases op with
  | Not => exact .not e p
  | USub => exact .neg e p
  | _ => exact .other _
 | BoolOp op es p => exact .bool op es p
 | IfExp t b o p => exact .ife t b o p
 | Compare l ops cs p => exact .cmp l ops cs p
 | List es p => exact .list es p
 | Tuple es k p => exact .tup es k p
 | Dict ks es p => exact .dict ks es p
 | Attribute e x p => exact .attr e x p
 | Subscript e i p =>
  cases nm i with
  | sl lo hi st q => exact .slice e lo hi st q p
  | nm _ _ => exact .sub e _ p fun _ _ => rfl
  | «at» _ _ _ => exact .sub e _ p fun _ _ => rfl
  | no _ h => exact .sub e _ p h
 | Call f args kws p =>
  cases nm f with
  | nm f q => exact .callN f q args kws p
  | «at» o m q => exact .callA o m q args kws p
  | _ => exact .other _
 | ListComp elt gens sc p =>
  cases gens with
  | nil => exact .other _
  | cons g r =>
   cases r with
   | cons _ _ => exact .other _
   | nil =>
    obtain ⟨t,it,ifs,ia⟩:=g
    cases nm t with
    | nm x q => exact .comp elt x q it ifs ia sc p
    | _ => exact .other _
 | _ => exact .other _
noncomputable def known {e:Expr}:View e -> Bool
 | .other _ => false
 | _ => true
noncomputable def starless (e:Expr):Bool:=known (view e)
noncomputable def notComp (e:Expr):Bool:=match view e with
 | .comp .. => false
 | v => known v
noncomputable def noStar (l:List Expr):Bool:=l.all starless
noncomputable def namedKw (l:List Keyword):Bool:=l.all fun k => k.arg.isSome
noncomputable def strV {e:Expr}:View e -> Option { x:Str // ∃ k p,e = .Constant (.str x) k p }
 | .const (.str x) k p => some ⟨x,k,p,rfl⟩
 | _ => none
noncomputable def strOf (e:Expr):Option Str:=(strV (view e)).map (·.1)
theorem strOf_inv {e:Expr} {x:Str} (h:strOf e = some x):∃ k p,e = .Constant (.str x) k p:=by
 obtain ⟨⟨y,q⟩,_,rfl⟩:=Option.map_eq_some_iff.mp h
 exact q
section
variable {M:Model} {A:Around} {E:Value -> Shared -> Prop} {s:Shared} {env:Env} {pos:Pos}
theorem star_cons {e:Expr} {rest:List Expr} (h:starless e = true):starEach (e :: rest) env = (false,eval e env) :: starEach rest env:=by
 unfold starless at h
 generalize view e = v at h
 cases v <;> first | rfl | cases h
theorem noStar_cons {e:Expr} {rest:List Expr} (h:noStar (e :: rest) = true):starless e = true /\ noStar rest = true:=Bool.and_eq_true_iff.mp h
theorem args_plain {es:List Expr}:noStar es = true -> (backTo pos (starEach es env)).any (·.1) = false:=by
 induction es with
 | nil => exact fun _ => rfl
 | cons e r ih => intro h; rw [star_cons (noStar_cons h).1]; exact ih (noStar_cons h).2
theorem named_cons {k:Keyword} {rest:List Keyword} (h:namedKw (k :: rest) = true):k.arg.isSome = true /\ namedKw rest = true:=Bool.and_eq_true_iff.mp h
theorem kws_all {ks:List Keyword}:namedKw ks = true -> (backToKw pos (keywordEach ks env)).all (·.1.isSome) = true:=by
 induction ks with
 | nil => exact fun _ => rfl
 | cons k r ih =>
  intro h
  obtain ⟨x,e,p⟩:=k
  cases x with
  | none => cases (named_cons h).1
  | some x => exact ih (named_cons h).2
theorem kws_any {ks:List Keyword}:namedKw ks = true -> (backToKw pos (keywordEach ks env)).any (·.1.isNone) = false:=by
 induction ks with
 | nil => exact fun _ => rfl
 | cons k r ih =>
  intro h
  obtain ⟨x,e,p⟩:=k
  cases x with
  | none => cases (named_cons h).1
  | some x => exact ih (named_cons h).2
theorem evalArgs_both {f:Value} {es:List Expr} {ks:List Keyword} {Q:Args -> Shared -> Prop} (he:noStar es = true) (hk:namedKw ks = true)
  (h:wpAny M A (spliced (backTo pos (starEach es env))) (fun vs s₁ => wpAny M A (evalAll ((backToKw pos (keywordEach ks env)).map (·.2))) (fun xs s₂ => Q ⟨vs,((backToKw pos (keywordEach ks env)).filterMap (·.1)).zip xs⟩ s₂) E s₁) E s) :
  wpAny M A (evalArgs f true (backTo pos (starEach es env)) (backToKw pos (keywordEach ks env))) Q E s:=by
 cases es with
 | nil =>
  refine evalArgs_kw2_nil (kws_all hk) fun Γ p hΓ => ?_
  have h':wpAny M A (evalAll ((backToKw pos (keywordEach ks env)).map (·.2))) (fun xs s₂ => Q ⟨[],((backToKw pos (keywordEach ks env)).filterMap (·.1)).zip xs⟩ s₂) E s:=h Γ p hΓ
  exact h' Γ p hΓ
 | cons e r => exact evalArgs_kw2 (kws_all hk) h (star_cons (noStar_cons he).1)
end
noncomputable def CallP (b:Hb) (A:Around) (K:V -> St -> Prop) (X:Addr -> St -> Prop) (m:Ms):Result -> Shared -> Prop
 | .ok (.ret v),s' => OK b K m v s'
 | .ok _,_ => False
 | .error e,s' => EXC b A X m e s'
noncomputable def CallOk (b:Hb) (n:Nat) (call:RunT):Prop :=
 ∀ f args kw K X m,call f args kw m.σ K X -> ∀ A,AOk b n A -> ∀ vals kvals,Rel b m -> VMs m args vals -> KVs (VM m) kw kvals -> 1 <= m.s.toks -> codeAny b.M A (.call (.ref f) ⟨vals,kvals⟩) (CallP b A K X m) m.s
noncomputable def mkEs:List CE -> CEs
 | [] => .nil
 | e :: r => .cons e (mkEs r)
theorem OK.start {b:Hb} {Q:V -> St -> Prop} {m m₁:Ms} {v':Value} {s':Shared} (S:Step No m m₁) (x:OK b Q m₁ v' s'):OK b Q m v' s':=by
 obtain ⟨v,σ,g,a,c,d,f⟩:=x
 exact ⟨v,σ,g,a,c,d,S.trans f⟩
theorem ok_from {M:Model} {A:Around} {t:Sem Value} {b:Hb} {Q:V -> St -> Prop} {E:Value -> Shared -> Prop} {m m₁:Ms} {s:Shared} (S:Step No m m₁) (h:wpAny M A t (OK b Q m₁) E s):wpAny M A t (OK b Q m) E s:=wpAny_mono h (fun _ _ z => z.start S) fun _ _ z => z
section
variable {W:Wd} {P:PX} {fr:Fr} {g:Expr -> CE}
theorem sound_es (H:∀ e,TE W (eval e W.env) (g e)) (hS:∀ e,starless e = false -> g e = .fail) {pos:Pos} {es:List Expr}:∀ {K:List V -> EE -> Fr -> St -> Prop} {m:Ms} (Z:At W fr m) (q:evs (mkEs (es.map g)) ⟨W.cx,P⟩ fr m.σ K) {Q:List Value -> Shared -> Prop}
  (h:∀ vs vals m',K vs ⟨W.cx,P⟩ fr m'.σ -> VMs m' vs vals -> Step No m m' -> At W fr m' -> Q vals m'.s),wpAny W.b.M W.A (spliced (backTo pos (starEach es W.env))) Q (EX W P.exc) m.s:=by
 induction es with
 | nil => intro K m Z q Q h; exact wpAny_items_nil (h [] [] m q rfl StepH.refl Z)
 | cons e r ih =>
  intro K m Z q Q h
  have he:starless e = true:=by
   cases z:starless e with
   | true => rfl
   | false => rw [List.map_cons,hS e z] at q; exact q.elim
  exact wpAny_items_cons ((H e).run Z q fun v v' m1 q1 e1 S1 Z1 => ih Z1 q1 fun vs vals m2 q2 e2 S2 Z2 => h (v :: vs) (v' :: vals) m2 q2 ⟨_,_,Step.vr S2 Z1.R e1,e2⟩ (S1.trans S2) Z2) (star_cons he)
theorem sound_kw (H:∀ e,TE W (eval e W.env) (g e)) {pos:Pos} {ks:List Keyword}:∀ (n:namedKw ks = true) {K:List V -> EE -> Fr -> St -> Prop} {m:Ms} (Z:At W fr m) (q:evs (mkEs (ks.map fun k => g k.value)) ⟨W.cx,P⟩ fr m.σ K) {Q:List Value -> Shared -> Prop}
  (h:∀ vs vals m',K vs ⟨W.cx,P⟩ fr m'.σ -> KVs (VM m') ((ks.filterMap (·.arg)).zip vs) (((backToKw pos (keywordEach ks W.env)).filterMap (·.1)).zip vals) -> Step No m m' -> At W fr m' -> Q vals m'.s),wpAny W.b.M W.A (evalAll ((backToKw pos (keywordEach ks W.env)).map (·.2))) Q (EX W P.exc) m.s:=by
 induction ks with
 | nil => intro n K m Z q Q h; exact kwAll_nil (h [] [] m q rfl StepH.refl Z)
 | cons k r ih =>
  intro n K m Z q Q h
  obtain ⟨x,e,p⟩:=k
  cases x with
  | none => cases (named_cons n).1
  | some x => exact kwAll_cons ((H e).run Z q fun v v' m1 q1 e1 S1 Z1 => ih (named_cons n).2 Z1 q1 fun vs vals m2 q2 e2 S2 Z2 => h (v :: vs) (v' :: vals) m2 q2 ⟨_,_,Step.vr S2 Z1.R e1,e2⟩ (S1.trans S2) Z2)
structure Keeps (b:Hb) (fv:Value):Prop where
 ex:∃ P:Heap -> Prop,(∀ h,P h -> ∃ k,(k = Keeper.frame \/ k = Keeper.machine \/ k = Keeper.boundFrame) /\ Looks b.M h (keeperOf fv) k) /\ ∀ h,(∀ a o,b.get? a = some o -> h.get? a = some o) -> P h
theorem keeps_ref {b:Hb} {K:Frag} {a:Addr} (X:K.In b.heap) (h:keepIn K (.ref a) = true):Keeps b (.ref a):=⟨fun h => K.In h,keeps_K h,fun h hb => X.keeps hb⟩
theorem keeps_pure {b:Hb} {v:Value} (h:keeperOf v = pure .machine):Keeps b v:=⟨fun _ => True,fun _ _ => ⟨.machine,.inr (.inl rfl),Looks.of_pure h⟩,fun _ _ => trivial⟩
theorem sound_args (H:∀ e,TE W (eval e W.env) (g e)) (hS:∀ e,starless e = false -> g e = .fail) {fv:Value} {first:List Value} {args:List Expr} {kws:List Keyword} {pos:Pos} (ha:noStar args = true) (hk:namedKw kws = true) (hkeep:Keeps W.b fv) {K:List V -> List V -> EE -> Fr -> St -> Prop} {m:Ms} (Z:At W fr m)
  (q:evs (mkEs (args.map g)) ⟨W.cx,P⟩ fr m.σ fun vs e fr σ => evs (mkEs (kws.map fun k => g k.value)) e fr σ fun ks e fr σ => K vs ks e fr σ) {Q:Value -> Shared -> Prop}
  (h:∀ vs ks vals kvals m',K vs ks ⟨W.cx,P⟩ fr m'.σ -> VMs m' vs vals -> KVs (VM m') ((kws.filterMap (·.arg)).zip ks) kvals -> Step No m m' -> At W fr m' -> wpAny W.b.M W.A (call fv (first ++ vals) kvals) Q (EX W P.exc) m'.s) :
  wpAny W.b.M W.A (callWith pos fv first (backTo pos (starEach args W.env)) (backToKw pos (keywordEach kws W.env))) Q (EX W P.exc) m.s:=by
 obtain ⟨P',h1,h2⟩:=hkeep.ex
 exact callWith_of (P:=P') (by rw [args_plain ha,kws_any hk]; rfl) h1 (evalArgs_both ha hk (sound_es H hS Z q fun vs vals m1 q1 e1 S1 Z1 => sound_kw H hk Z1 q1 fun ks kvals m2 q2 e2 S2 Z2 => ⟨h2 _ Z2.R.base,h vs ks vals _ m2 q2 (Step.vrs S2 Z1.R e1) e2 (S1.trans S2) Z2⟩))
end
structure MethOk (K:Frag) (C:Addr) (x:Str) (f:Addr):Prop where
 cls:ClsOk K C
 find:findIn K (.ref C) x = some (some (.ref f))
 ty:typeIn K (.ref f) = some (.type "function")
 keep:keepIn K (.ref f) = true
inductive SelIs (K:Frag) (bo:Option BM):SelR -> Value -> Prop
 | fn (f:Addr) (k:keepIn K (.ref f) = true):SelIs K bo (.fn f) (.ref f)
 | pk (f:Addr) (k:keepIn K (.ref f) = true):SelIs K bo (.pk f) (.ref f)
 | bm (f:BM) (e:bo = some f):SelIs K bo .bm (.builtin f.id)
section
variable {b:Hb} {m:Ms} {A:Around} {E:Value -> Shared -> Prop} {K:Frag}
theorem type_bm (f:BM):typeOf (.builtin f.id) = pure (.type "method_descriptor"):=by
 cases f
 ·exact PySem.F.type_str_split
 ·exact PySem.F.type_str_index
 ·exact PySem.F.type_str_join
 ·exact PySem.F.type_list_pop
 ·exact PySem.F.type_list_append
 ·exact PySem.F.type_dict_get
theorem slot_bm (f:BM):Slot f.ty f.nm f.id:=by
 cases f
 ·exact PySem.F.slot_str_split
 ·exact PySem.F.slot_str_index
 ·exact PySem.F.slot_str_join
 ·exact PySem.F.slot_list_pop
 ·exact PySem.F.slot_list_append
 ·exact PySem.F.slot_dict_get
theorem inst_method {s:Shared} {x C f:Addr} {name:Str} {R:Str -> Option Value -> Prop} {own:Addr -> Prop} {pl:Sem Bool} {P:Value × List Value -> Shared -> Prop} (X:K.In s.heap) (N:MethOk K C name f) (hc:InstC s.heap C R x own) (hl:∀ v,R name v -> v = none)
  (h:P (.ref f,[.ref x]) s):wpAny b.M A (getMethod (.ref x) name pl) P E s:=by
 obtain ⟨dx,f',i1,⟨o,es,ep,i3,i2d,i2k,_,i2m⟩,i5,i6,i7⟩:=hc
 refine method_fn X (inst_at i1 i3) N.cls.ga N.cls.gx N.find N.ty ?_ h
 show (lookIn name o).map _ = _
 rw [look_isSome i2d i2k i2m,hl _ (i6 name)]
 rfl
theorem opt_none {P:V -> Value -> Prop} {o:Option V} {v:Option Value} (h:o = none) (e:OptR P o v):v = none:=by subst h; exact e
theorem pick_inv {name:Str} {ms:List (Addr × Addr)} {p:Addr × List (Str × V)} {f:Addr} (h:pickF name ms p = some f):p.2.lookup name = none /\ ms.lookup p.1 = some f:=(bif_opt h).imp_left Option.isNone_iff_eq_none.mp
theorem bmS_inv {q:BM -> Bool} {bo:Option BM} {r:SelR} (h:bmS q bo = some r):∃ f,bo = some f /\ q f = true /\ SelR.bm = r:=by
 obtain ⟨f,e,h⟩:=bind_of h
 exact ⟨f,e,bif_some h⟩
set_option maxRecDepth 8000 in
theorem sound_get {ms:List (Addr × Addr)} {bo:Option BM} {a:V} {va:Value} {name:Str} {r:SelR} (X:K.In b.heap) (hM:∀ c f,ms.lookup c = some f -> MethOk K c name f) (hb:∀ f,bo = some f -> name = f.nm) (R:Rel b m) (ea:VM m a va) (q:selF name ms bo a m.σ = some r) {pl:Sem Bool} {P:Value × List Value -> Shared -> Prop}
  (hP:∀ fv,SelIs K bo r fv -> P (fv,[va]) m.s):wpAny b.M A (getMethod va name pl) P E m.s:=by
 have XK:K.In m.s.heap:=X.keeps R.base
 have blt:∀ (f:BM) {T:String},f.ty = T -> bo = some f -> SelR.bm = r -> m.s.TypeIs va T -> PlainAttrs T -> (∀ a,va = .ref a -> ∃ o,m.s.heap.get? a = some o /\ o.dict = none) -> wpAny b.M A (getMethod va name pl) P E m.s:=fun f T e0 e1 e2 hT hp ho => by
  subst e0 e2
  rw [hb f e1]
  exact getMethod_builtin hT hp (slot_bm f) (type_bm f) ho (hP _ (.bm f e1))
 cases a with
 | str x =>
  obtain ⟨t,_⟩:=ea
  obtain ⟨f,e,hf,e2⟩:=bmS_inv q
  refine blt f (T:="str") ?_ e e2 (typeIs_str m.s x t) PySem.F.plainAttrs_str (fun a e => nomatch e)
  cases f <;> first | rfl | cases hf
 | ref n =>
  obtain ⟨hn⟩:=ea
  obtain ⟨c,e1,q⟩:=bind_of q
  have hc:=R.at_ n _ e1
  cases c with
  | inst c fs =>
   obtain ⟨f,q0,rfl⟩:=Option.map_eq_some_iff.mp q
   obtain ⟨q1,q2⟩:=pick_inv q0
   exact inst_method XK (hM _ _ q2) hc (fun v => opt_none q1) (hP _ (.fn f (hM _ _ q2).keep))
  | pack σL =>
   obtain ⟨p,e2,q⟩:=bind_of q
   obtain ⟨f,q0,rfl⟩:=Option.map_eq_some_iff.mp q
   obtain ⟨q1,q2⟩:=pick_inv q0
   obtain ⟨c0,e2,e3⟩:=bind_of e2
   rw [instAt_of e3] at e2
   have hc:PackN b.w m.s.heap b.k σL (m.g.ρ n) (m.g.ow n):=hc
   cases hk:b.k with
   | zero => rw [hk] at hc; exact hc.elim
   | succ k =>
    rw [hk] at hc
    obtain ⟨g1,hn1,_,hat,_,hr0,_⟩:=hc
    rw [<- hr0]
    exact inst_method XK (hM _ _ q2) (hat _ _ e2) (fun v => opt_none q1) (hr0 ▸ hP _ (.pk f (hM _ _ q2).keep))
  | list l =>
   obtain ⟨f,e,hf,e2⟩:=bmS_inv q
   obtain ⟨items,⟨k,ho⟩,_,_⟩:=hc
   refine blt f (T:="list") ?_ e e2 ⟨_,ho,rfl⟩ PySem.F.plainAttrs_list (fun a e => by cases e; exact ⟨_,ho,rfl⟩)
   cases f <;> first | rfl | cases hf
  | dict l =>
   obtain ⟨f,e,hf,e2⟩:=bmS_inv q
   obtain ⟨fm,d1,_,_⟩:=hc
   have hT:=d1.mapOf.typeIs
   obtain ⟨o,_,_,ho,hc,_⟩:=d1
   refine blt f (T:="dict") ?_ e e2 hT PySem.F.plainAttrs_dict (fun a e => by cases e; exact ⟨_,ho,hc.2.1⟩)
   cases f <;> first | rfl | cases hf
  | tdict l => cases q
 | _ => cases q
end
section
variable {h:Heap} {U U':Addr -> Prop} {R R':Nat -> Value -> Prop} {P:V -> Prop}
theorem KVs.with {P' P'':V -> Value -> Prop} (hv:∀ v x,P v -> P' v x -> P'' v x) {l:List (Str × V)}:∀ {x:List (Str × Value)},(∀ p ∈ l,P p.2) -> KVs P' l x -> KVs P'' l x:=by
 induction l with
 | nil => exact fun _ e => e
 | cons v r ih => intro x p e; obtain ⟨y,ys,e1,e2⟩:=e; exact ⟨y,ys,hv _ _ (p v (.head _)) e1,ih (fun v hv => p v (.tail _ hv)) e2⟩
theorem KHs.with {P' P'':V -> Value -> Prop} (hv:∀ v x,P v -> P' v x -> P'' v x) {l:List (List Str × V)}:∀ {x:List (List Str × Addr × Value)},(∀ p ∈ l,P p.2) -> KHs P' l x -> KHs P'' l x:=by
 induction l with
 | nil => exact fun _ e => e
 | cons v r ih => intro x p e; obtain ⟨a,y,ys,e1,e2⟩:=e; exact ⟨a,y,ys,hv _ _ (p v (.head _)) e1,ih (fun v hv => p v (.tail _ hv)) e2⟩
structure Conv (h:Heap) (U U':Addr -> Prop) (R R':Nat -> Value -> Prop) (P:V -> Prop):Prop where
 t:∀ l,P (.tup l) -> ∀ v ∈ l,P v
 l:∀ l,P (.lst l) -> (∀ v ∈ l,P v) /\ ∀ a items,U a -> h.PlainList a items -> U' a
 r:∀ n x,P (.ref n) -> R n x -> R' n x
mutual
theorem VR.conv (C:Conv h U U' R R' P):∀ {v:V} {x:Value},P v -> VR h U R v x -> VR h U' R' v x
 | .none,_,_,e => e
 | .bool _,_,_,e => e
 | .int _,_,_,e => e
 | .str _,_,_,e => e
 | .tup l,_,p,e => by obtain ⟨a,items,q,r⟩:=e; exact ⟨a,items,q,VRs.conv C (C.t l p) r⟩
 | .lst l,_,p,e => by obtain ⟨a,items,u,q,r⟩:=e; exact ⟨a,items,(C.l l p).2 _ _ u q,q,VRs.conv C (C.l l p).1 r⟩
 | .rng ..,_,_,e => e
 | .ref n,_,p,e => C.r n _ p e
theorem VRs.conv (C:Conv h U U' R R' P):∀ {l:List V} {x:List Value},(∀ v ∈ l,P v) -> VRs h U R l x -> VRs h U' R' l x
 | [],_,_,e => e
 | v :: r,_,p,e => by obtain ⟨y,ys,e1,e2⟩:=e; exact ⟨y,ys,VR.conv C (p v (.head _)) e1,VRs.conv C (fun v hv => p v (.tail _ hv)) e2⟩
end
noncomputable def CellP (P:V -> Prop):Cell -> Prop
 | .list l => ∀ v ∈ l,P v
 | .dict kvs => ∀ p ∈ kvs,P p.2
 | .tdict kvs => ∀ p ∈ kvs,P p.2
 | .inst _ fs => ∀ k v,fs.lookup k = some v -> P v
 | .pack _ => True
theorem CellW.conv {w:World} {K:List Cell -> Addr -> (Addr -> Prop) -> Prop} (C:Conv h U U' R R' P) {c:Cell} {a:Addr} {own:Addr -> Prop} (p:CellP P c) (e:CellW w h K U R c a own):CellW w h K U' R' c a own:=by
 have hv:∀ v x,P v -> VR h U R v x -> VR h U' R' v x:=fun _ _ => VR.conv C
 cases c with
 | list l => obtain ⟨items,h1,h2,hw⟩:=e; exact ⟨items,h1,h2.conv C p,hw⟩
 | dict l => obtain ⟨f,h1,h2,hw⟩:=e; exact ⟨f,h1,h2.with hv p,hw⟩
 | tdict l => obtain ⟨f,h1,h2,h3,hw⟩:=e; exact ⟨f,h1,h2,h3.with hv p,hw⟩
 | inst c fs =>
  obtain ⟨dx,f,h1,h2,h3,h4,hw⟩:=e
  refine ⟨dx,f,h1,h2,h3,fun k => ?_,hw⟩
  have:=h4 k
  cases z:fs.lookup k with
  | none => rw [z] at this; exact this
  | some v => rw [z] at this; exact this.elim fun y q => ⟨y,q.1,hv _ _ (p k v z) q.2⟩
 | pack σ => exact e
end
theorem norefs_all {l:List V}:V.norefs l = true -> ∀ v ∈ l,v.noref = true:=by
 induction l with
 | nil => exact fun _ _ h => nomatch h
 | cons v r ih => exact fun h u hu => (List.mem_cons.mp hu).elim (fun e => e ▸ (Bool.and_eq_true_iff.mp h).1) (ih (Bool.and_eq_true_iff.mp h).2 u)
theorem nolsts_all {l:List V}:V.nolsts l = true -> ∀ v ∈ l,v.nolst = true:=by
 induction l with
 | nil => exact fun _ _ h => nomatch h
 | cons v r ih => exact fun h u hu => (List.mem_cons.mp hu).elim (fun e => e ▸ (Bool.and_eq_true_iff.mp h).1) (ih (Bool.and_eq_true_iff.mp h).2 u)
theorem conv_free {h:Heap} {U U':Addr -> Prop} {R R':Nat -> Value -> Prop} (hU:∀ a,U a -> U' a):Conv h U U' R R' fun v => v.noref = true:=⟨fun _ p => norefs_all p,fun _ p => ⟨norefs_all p,fun a _ u _ => hU a u⟩,fun _ _ p => nomatch p⟩
theorem conv_nolst {h:Heap} {U U':Addr -> Prop} {R:Nat -> Value -> Prop}:Conv h U U' R R fun v => v.nolst = true:=⟨fun _ p => nolsts_all p,(fun _ p => nomatch p),fun _ _ _ e => e⟩
theorem mem_of_lookup' {κ α:Type} [BEq κ] [LawfulBEq κ] {l:List (κ × α)} {x:κ} {v:α}:l.lookup x = some v -> (x,v) ∈ l:=by
 induction l with
 | nil => exact fun e => nomatch e
 | cons p r ih =>
  intro e
  obtain ⟨y,u⟩:=p
  rw [List.lookup] at e
  cases z:x == y with
  | true => rw [z] at e; cases e; rw [beq_iff_eq.mp z]; exact .head _
  | false => rw [z] at e; exact .tail _ (ih e)
theorem cellp_nolst {c:Cell} (h:c.nolst = true):CellP (fun v => v.nolst = true) c:=by
 cases c with
 | list l => exact nolsts_all h
 | dict l => exact List.all_eq_true.mp h
 | tdict l => exact List.all_eq_true.mp h
 | inst c fs => exact fun k v e => List.all_eq_true.mp h (k,v) (mem_of_lookup' e)
 | pack => cases h
noncomputable def Hb.lv (b:Hb) (k:Nat):Hb:=⟨b.heap,b.io,b.envs,b.w,k⟩
structure Inner (g:G) (n:Nat) (g2:G):Prop where
 root:g2.ρ 0 = g.ρ n
 pos:0 < g2.n
 forb:∀ x,g2.forb x ↔ (g.forb x \/ ∃ j,j < g.n /\ j ≠ n /\ g.ow j x)
 ow:∀ x,g.ow n x ↔ ∃ i,i < g2.n /\ g2.ow i x
theorem Inner.free {g g2:G} {n:Nat} (hn:n < g.n) (I:Inner g n g2) {a:Addr} (hf:g.free a):g2.free a :=
 ⟨fun i hi hx => hf.1 n hn ((I.ow a).mpr ⟨i,hi,hx⟩),fun q => ((I.forb a).mp q).elim hf.2 fun ⟨j,hj,_,hx⟩ => hf.1 j hj hx⟩
section
variable {b:Hb} {m:Ms} {k n:Nat} {σL:St}
theorem pack_open (R:Rel b m) (hk:b.k = k + 1) (e:m.σ[n]? = some (.pack σL)):∃ g2,Rel (b.lv k) ⟨σL,g2,m.s⟩ /\ Inner m.g n g2:=by
 have hn:=R.get e
 have z:PackN b.w m.s.heap b.k σL (m.g.ρ n) (m.g.ow n):=R.at_ n _ e
 rw [hk] at z
 obtain ⟨g1,hn1,hp,hat,hs,hr0,hw⟩:=z
 refine ⟨⟨g1.n,g1.ρ,g1.ow,fun x => m.g.forb x \/ ∃ j,j < m.g.n /\ j ≠ n /\ m.g.ow j x⟩,⟨hn1,fun i c hi => CellW.mono (U:=fun _ => False) (.same (fun _ q => q.elim) fun _ _ q => q) (fun _ _ _ q => q) (fun _ q => q) (hat i c hi),hs,R.base,fun i x hi hx => R.ge n x hn ((hw x).mpr ⟨i,hi,hx⟩),fun x hx => ?_,fun i x hi hx q => ?_,R.ios,FrOk.mono (fun L o hl e f => ⟨⟨fun i hi hx => hl.1 n hn ((hw L).mpr ⟨i,hi,hx⟩),fun q => q.elim hl.2 fun ⟨j,hj,_,hx⟩ => hl.1 j hj hx⟩,o,e,f⟩) R.fr⟩,⟨hr0,hp,fun _ => Iff.rfl,hw⟩⟩
 ·rcases hx with hx | ⟨j,hj,_,hx⟩
  ·exact R.forb x hx
  ·obtain ⟨o,e,_⟩:=R.own_ex hj hx; exact ⟨o,e⟩
 ·have ho:=(hw x).mpr ⟨i,hi,hx⟩
  rcases q with q | ⟨j,hj,hj2,hx⟩
  ·exact R.disj n x hn ho q
  ·exact hj2 (R.sep j n x hj hn hx ho)
inductive Closed (b:Hb) (m:Ms) (n:Nat) (σL:St) (g2:G) (s':Shared):Prop | mk (g':G) (R:Rel b ⟨m.σ.set n (.pack σL),g',s'⟩) (S:Step No m ⟨m.σ.set n (.pack σL),g',s'⟩) (f:∀ a,g2.free a -> g'.free a)
theorem pack_close (R:Rel b m) (hk:b.k = k + 1) (e:m.σ[n]? = some (.pack σL)) {g2 g2':G} {σL':St} {s':Shared} (I:Inner m.g n g2) (R2:Rel (b.lv k) ⟨σL',g2',s'⟩) (S:StepH No g2 m.s.heap g2' s'.heap) (q:σL'.all Cell.nolst = true):Closed b m n σL' g2' s':=by
 have hn:=R.get e
 have ho:∀ x,(∃ i,i < g2'.n /\ g2'.ow i x) -> m.g.ow n x \/ m.s.heap.get? x = none:=fun x ⟨i,hi,hx⟩ => (S.new i x hi hx).imp_left fun p => (I.ow x).mpr ⟨i,p⟩
 have S':StepH No m.g m.s.heap (m.g.put n fun x => ∃ i,i < g2'.n /\ g2'.ow i x) s'.heap:=by
  refine ⟨Nat.le_refl _,fun _ _ => rfl,rfl,fun j x hj hjx => ?_,fun a o e hu _ => S.keep a o e (fun i hi hx => hu n hn ((I.ow a).mpr ⟨i,hi,hx⟩)) id,S.live,fun a o e hq _ => S.exact a o e ((I.forb a).mpr (.inl hq)) id⟩
  rcases G.put_ow hjx with ⟨q,q1⟩ | ⟨_,q⟩
  ·exact (ho x q1).imp_left fun p => ⟨hj,q ▸ p⟩
  ·exact .inl ⟨hj,q⟩
 refine ⟨_,R.setG hn (R2.ios.trans R.ios.symm) R2.base (fun j x o hj hjn hx e => S.exact x o e ((I.forb x).mpr (.inr ⟨j,hj,hjn,hx⟩)) id) S' ho ?_,S',fun a ha => ⟨fun j hj hjx => ?_,fun hq => ha.2 (by rw [S.forb]; exact (I.forb a).mpr (.inl hq))⟩⟩
 ·show PackN b.w s'.heap b.k σL' _ _
  rw [hk]
  exact ⟨g2',R2.n,Nat.lt_of_lt_of_le I.pos S.n,fun i c hi => (R2.at_ i c hi).conv conv_nolst (cellp_nolst (List.all_eq_true.mp q c (List.mem_of_getElem? hi))),R2.sep,(S.rho 0 I.pos).trans I.root,fun x => Iff.rfl⟩
 ·rcases G.put_ow hjx with ⟨_,i,hi,hx⟩ | ⟨z,z1⟩
  ·exact ha.1 i hi hx
  ·exact ha.2 (by rw [S.forb]; exact (I.forb a).mpr (.inr ⟨j,hj,z,z1⟩))
theorem pack_call {call':RunT} {nn:Nat} (hk:b.k = k + 1) (H:CallOk (b.lv k) nn call') {f:Addr} {args:List V} {kw:List (Str × V)} {Z:V -> St -> Prop}
  (q:call' f (.ref 0 :: args) kw σL (fun v σL' => v.noref = true /\ σL'.all Cell.nolst = true /\ Z v (m.σ.set n (.pack σL'))) (fun _ _ => False)) {A:Around} (B:AOk b nn A)
  (R:Rel b m) (e:m.σ[n]? = some (.pack σL)) (na:V.norefs args = true) (nk:V.norefs (kw.map (·.2)) = true) {vals:List Value} {kvals:List (Str × Value)} (ea:VMs m args vals) (ek:KVs (VM m) kw kvals) (ht:1 <= m.s.toks) {X:Addr -> St -> Prop} {a:Addr} (ha:m.g.ρ n = a) :
  codeAny b.M A (.call (.ref f) ⟨.ref a :: vals,kvals⟩) (CallP b A Z X m) m.s:=by
 subst ha
 obtain ⟨g2,R1,I⟩:=pack_open R hk e
 have hn:=R.get e
 have hU:∀ a,m.g.free a -> g2.free a:=fun a hf => I.free hn hf
 have C:Conv m.s.heap m.g.free g2.free m.g.at g2.at fun v => v.noref = true:=conv_free hU
 have ho:g2.at 0 (.ref (m.g.ρ n)):=I.root ▸ ⟨I.pos⟩
 refine codeAny_mono (H f (.ref 0 :: args) kw _ _ ⟨σL,g2,m.s⟩ q A ⟨B.handled,B.frames,B.depth,B.units⟩ (.ref (m.g.ρ n) :: vals) kvals R1 ⟨_,_,ho,VRs.conv C (norefs_all na) ea⟩ (KVs.with (fun _ _ => VR.conv C) (fun p hp => norefs_all nk p.2 (List.mem_map_of_mem hp)) ek) ht) fun r s' z => ?_
 cases r with
 | error x => obtain ⟨_,_,_,_,z,_⟩:=z; exact z.elim
 | ok fl =>
  cases fl with
  | ret v' =>
   obtain ⟨v,σL',g2',⟨q1,q2,q3⟩,R2,x,S⟩:=z
   obtain ⟨g3,R3,S3,fr⟩:=pack_close R hk e I R2 S q2
   exact ⟨v,_,g3,q3,R3,VR.conv (conv_free fr) q1 x,S3⟩
  | _ => exact z
end
inductive GV where
 | const (v:V) | fn (a:Addr) | cls (a:Addr) | bf (f:BF)
noncomputable def gl0:List (Str × GV):=[("len",.bf .len),("chr",.bf .chr),("ord",.bf .ord),("max",.bf .max),("int",.bf .int),("str",.bf .str),("list",.bf .list),("tuple",.bf .tuple),("dict",.bf .dict),("range",.bf .range)]
noncomputable def gl1:List (Str × GV):=[("NamespaceFault",.cls 51),("TreeFault",.cls 63),("Bindings",.cls 303),("NodeRow",.cls 347),("Tree",.cls 536)]
noncomputable def gl2:List (Str × GV):=[("DECLARATION",.const (.str "<?xml version=\"1.0\" encoding=\"UTF-8\"?>\n")),("XML_URI_order",.const (.str "http://www.w3.org/XML/1998/namespace")),("XML_URI_bindings",.const (.str "http://www.w3.org/XML/1998/namespace")),("XMLNS_URI",.const (.str "http://www.w3.org/2000/xmlns/"))]
noncomputable def gl3:List (Str × GV):=[("FIRST_BEYOND",.const (.int 128)),("PARENTS",.const (.tup [.str "root",.str "element"]))]
noncomputable def gl4:List (Str × GV):=[("text_escape",.fn 72),("value_escape",.fn 79),("escaped_text",.fn 84),("escaped_value",.fn 89),("prefix_of",.fn 96),("written_comment",.fn 103),("written_instruction",.fn 110),("plain_node",.fn 117)]
noncomputable def gl5:List (Str × GV):=[("declared",.fn 122),("start_tag",.fn 129),("inner_scope",.fn 136),("write",.fn 142),("is_small_letter",.fn 173),("is_name_start",.fn 180),("is_name_char",.fn 187),("is_nmtoken",.fn 194),("is_name",.fn 201)]
noncomputable def gl6:List (Str × GV):=[("is_ncname",.fn 208),("split_name",.fn 215),("declared_prefix",.fn 222),("check_binding",.fn 229),("build",.fn 315),("add_start",.fn 322),("left_end",.fn 329),("_law_pool",.fn 547),("_law_take",.fn 554),("_law_one",.fn 561)]
noncomputable def gl7:List (Str × GV):=[("_law_unescaped",.fn 568),("_law_tag",.fn 575),("_law_tag_end",.fn 582),("_law_events",.fn 589),("_law_words",.fn 594),("_law_named",.fn 601),("_law_element",.fn 608),("_law_document",.fn 615),("_law_row",.fn 620)]
noncomputable def gl8:List (Str × GV):=[("_law_alike",.fn 625),("_law_refused",.fn 632),("_law_told_right",.fn 639),("law",.fn 644)]
noncomputable def tabGl:List (Str × GV):=gl0 ++ gl1 ++ gl2 ++ gl3 ++ gl4 ++ gl5 ++ gl6 ++ gl7 ++ gl8
noncomputable def tabMeth:List (Str × List (Addr × Addr)):=[("enter",[(303,250)]),("leave",[(303,257)]),("uri_of",[(303,278)]),("resolved",[(303,286)]),("check_attributes",[(303,293)]),
  ("new_row",[(536,372)]),("row",[(536,379)]),("new_root",[(536,386)]),("add_child",[(536,393)]),("add_element",[(536,400)]),("add_text",[(536,407)]),("add_comment",[(536,414)]),("add_instruction",[(536,421)]),
  ("element_row",[(536,428)]),("set_attribute",[(536,435)]),("add_namespace",[(536,442)]),("kind",[(536,456)]),("name",[(536,463)]),("uri",[(536,470)]),("local",[(536,477)]),("value",[(536,484)]),("parent",[(536,491)]),
  ("children",[(536,498)]),("attributes",[(536,505)]),("namespaces",[(536,512)])]
noncomputable def tabAttr:List (Str × List Addr):=[("rows",[536]),("scopes",[303]),("told",[303]),("kind",[347]),("name",[347]),("uri",[347]),("local",[347]),("value",[347]),("parent",[347]),("children",[347]),("attributes",[347]),("namespaces",[347])]
noncomputable def tabInit:List (Addr × Addr):=[(303,243),(347,344),(536,365)]
noncomputable def tabExc:List Addr:=[51,63]
structure InitOk (K:Frag) (c f:Addr):Prop where
 makes:makesIn K c = true
 find:findIn K (.ref c) "__init__" = some (some (.ref f))
 ty:typeIn K (.ref f) = some (.type "function")
noncomputable def PB (K:Frag) (fd:FuncData) (ps:List Str):Nat -> List Value -> Prop
 | 0,l => ∀ S,peek K S (bindArgs fd ⟨l,[]⟩) = some (ps.zip l)
 | n + 1,l => ∀ v,PB K fd ps n (l ++ [v])
theorem PB.go {K:Frag} {fd:FuncData} {ps:List Str} {n:Nat}:∀ {l r:List Value},PB K fd ps n l -> r.length = n -> ∀ S,peek K S (bindArgs fd ⟨l ++ r,[]⟩) = some (ps.zip (l ++ r)):=by
 induction n with
 | zero =>
  intro l r h e
  rw [List.length_eq_zero_iff.mp e,List.append_nil]
  exact h
 | succ n ih =>
  intro l r h e
  cases r with
  | nil => cases e
  | cons v r => rw [List.append_cons]; exact ih (h v) (Nat.succ.inj e)
theorem binds_of {K:Frag} {s:Shared} {fd:FuncData} {args:Args} {r:List (Str × Value)} (X:K.In s.heap) (h:∀ S,peek K S (bindArgs fd args) = some r):BindsTo s fd args r:=fun M _ _ _ q => (Looks.of_peek (M:=M) X (h _)).here q
theorem PB.binds {K:Frag} {s:Shared} {fd:FuncData} {ps:List Str} {n:Nat} {r:List Value} (X:K.In s.heap) (h:PB K fd ps n []) (e:r.length = n):BindsTo s fd ⟨r,[]⟩ (ps.zip r):=binds_of X (h.go e)
noncomputable abbrev lineOf (Ma:Addr):List Value:=[.ref Ma,.type "Exception",.type "BaseException",.type "object"]
structure FdOk (K:Frag) (f:Addr) (fd:FuncData):Prop where
 ex:∃ o,K.lookup f = some o /\ o.data = .func fd
 glob:fd.globals = mainGlobals
 bi:fd.builtins = builtinsNs
 clos:fd.closure = []
 code:codeIn K fd.code fd.qualname = true
 kind:fd.scope.kind = .function
 co:fd.scope.isCoroutine = false
 gen:fd.scope.isGenerator = false
inductive InitFn (K:Frag) (f:Addr):Prop
 | mk (fd:FuncData) (o:FdOk K f fd) (pb:PB K fd ["self","message"] 2 [])
  (sn:fd.scope.names = [(("self":Str),NameKind.local),(("message":Str),NameKind.local),(("Exception":Str),NameKind.globalImplicit)])
  (a1 a2 a3 a4 a5 a6 a7 a8 a9 a10:Pos) (l:a2.endLine = a5.line) (bd:fd.body = .stmts [.Expr (.Call (.Attribute (.Name "Exception" a1) "__init__" a2) [.Name "self" a3,.Name "message" a4] [] a5) a6,.Assign [.Attribute (.Name "self" a7) "message" a8] (.Name "message" a9) a10])
structure ExcHd where
 nm:Str
 q:Str
 N:Addr
 bs:List Value
 Ma:Addr
 sn:List Str
 sub:List Value
 ab:Bool
 col:Option Bool
 dd:Option Addr
 k0:Option Value
 k1:Option Value
 k2:Option Value
 k3:Option Value
 k5:Option Value
noncomputable abbrev ExcHd.obj (x:ExcHd) (C:Addr):Obj:=excClassObj x.nm x.q C x.N x.bs (lineOf x.Ma) true x.sn x.sub x.ab x.col x.dd x.k0 x.k1 x.k2 x.k3 x.k5 "Exception.__new__"
structure ExcOk (K:Frag) (C:Addr):Prop where
 obj:∃ x:ExcHd,K.lookup C = some (x.obj C)
 init:∃ f,findIn K (.ref C) "__init__" = some (some (.ref f)) /\ typeIn K (.ref f) = some (.type "function") /\ InitFn K f
 sa:findIn K (.ref C) "__setattr__" = some (some (.builtin "object.__setattr__"))
 msg:findIn K (.ref C) "message" = some none
 top:mroIn K C (.type "object") = some true
 new:∀ S v,peek K S (checkBuiltinCall "Exception.__new__" ⟨[.ref C,v],[]⟩) = some ()
noncomputable def GVIs (hb:Heap):GV -> Value -> Prop
 | .const v => VR hb (fun _ => False) (fun _ _ => False) v
 | .fn a => fun x => x = .ref a
 | .cls a => fun x => x = .ref a
 | .bf f => fun x => x = f.val
noncomputable def AtGl (mg mb:Str -> Option Value) (x:Str) (v:Value):Prop:=mg x = some v \/ (mg x = none /\ mb x = some v)
inductive GlobR (hb:Heap):Prop
 | mk (mg mb:Str -> Option Value) (n1:hb.Ns mainGlobals mg) (n2:hb.Ns builtinsNs mb) (r:∀ x gv,tabGl.lookup x = some gv -> ∃ v,AtGl mg mb x v /\ GVIs hb gv v) (e:AtGl mg mb "Exception" (.type "Exception"))
structure TabOk (K:Frag) (hb:Heap):Prop where
 inK:K.In hb
 lim:hb.NoLimit
 gl:GlobR hb
 keepF:∀ x a,tabGl.lookup x = some (.fn a) -> keepIn K (.ref a) = true
 keepC:∀ x a,tabGl.lookup x = some (.cls a) -> keepIn K (.ref a) = true
 attr:∀ x cs,tabAttr.lookup x = some cs -> ∀ c,cs.contains c = true -> NameOk K c x
 meth:∀ n ms,tabMeth.lookup n = some ms -> ∀ c f,ms.lookup c = some f -> MethOk K c n f
 init:∀ c f,tabInit.lookup c = some f -> InitOk K c f
 exc:∀ c,tabExc.contains c = true -> ExcOk K c
structure CtxOk (W:Wd):Prop where
 B:BOk W.b W.n W.A
 T:TabOk W.K W.b.heap
 sys:SysAt W.b
 call:CallOk W.b W.n W.cx.call
 inner:∀ k,W.b.k = k + 1 -> CallOk (W.b.lv k) W.n W.cx.inner
 packed:W.b.k = 0 -> ∀ c,W.cx.packed c = false
theorem CtxOk.sub {W:Wd} (C:CtxOk W) (env:Env) (ns:List Str) (O:Ms):CtxOk { W with env:=env,ns:=ns,O:=O }:=⟨C.B,C.T,C.sys,C.call,C.inner,C.packed⟩
theorem CtxOk.room {W:Wd} (C:CtxOk W):W.A.units + 70 < cLine:=by have:=C.B.units; lia
theorem BOk.aok {b:Hb} {n:Nat} {A:Around} (B:BOk b n A):AOk b n A:=⟨B.handled,B.frames,by have:=B.depth; lia,by have:=B.units; lia⟩
section
variable {b:Hb} {m:Ms} {A:Around} {Q:V -> St -> Prop} {n:Nat}
theorem call_own {call':RunT} (H:CallOk b n call') {f:Addr} {args:List V} {kw:List (Str × V)} {K:V -> St -> Prop} {X:Addr -> St -> Prop} (q:call' f args kw m.σ K X) (B:AOk b n A) (R:Rel b m) {vals:List Value} {kvals:List (Str × Value)} (ea:VMs m args vals) (ek:KVs (VM m) kw kvals) (ht:1 <= m.s.toks) :
  wpAny b.M A (PySem.call (.ref f) vals kvals) (OK b K m) (EXC b A X m) m.s:=by
 refine wpAny_call (codeAny_mono (H f args kw K X m q A B vals kvals R ea ek ht) fun r s' z => ?_)
 cases r with
 | error e => exact z
 | ok fl => cases fl <;> exact z
theorem own_end {W:Wd} {P:PX} {fr:Fr} {t:Sem Value} {K:V -> St -> Prop} (Z:At W fr m) (h:wpAny W.b.M W.A t (OK W.b K m) (EXC W.b W.A (fun c σ => P.exc c fr σ) m) m.s):wpAny W.b.M W.A t (OK W.b K m) (EX W P.exc) m.s :=
 wpAny_with_toks Z.t (wpAny_mono h (fun _ _ x _ => x) fun _ _ x t => Z.lift x t)
theorem under_aok (B:BOk b n A) (c:Addr) (vals:List Value):AOk b n (A.under (.builtin "type.__call__" ⟨.ref c :: vals,[]⟩)) :=
 ⟨B.handled,B.frames,by have:=B.depth; show A.depth + 1 + _ < _; lia,by have:=B.units; show A.units + 1 + _ + _ < _; lia⟩
theorem made_end {c:Cell} {a:Addr} {own:Addr -> Prop} {s1 s':Shared} {v':Value} (R:Rel b m) (R1:Rel b ⟨m.σ ++ [c],m.g.add a own,s1⟩) (S:Step No m ⟨m.σ ++ [c],m.g.add a own,s1⟩) (z:OK b (fun v σ => v = .none /\ Q (.ref m.σ.length) σ) ⟨m.σ ++ [c],m.g.add a own,s1⟩ v' s'):v' = .none /\ OK b Q m (.ref a) s':=by
 obtain ⟨v,σ,g,⟨rfl,q⟩,R3,x,S3⟩:=z
 exact ⟨x,.ref m.σ.length,σ,g,q,R3,(Step.mono S3 R1 Plainly.none).r _ _ (R.n ▸ G.add_new),S.trans S3⟩
theorem sound_cls {W:Wd} (C:CtxOk W) {c f:Addr} (I:InitOk W.K c f) {args:List V} {X:Addr -> St -> Prop} {E:Value -> Shared -> Prop} (q:clsF W.cx c f args m.σ Q X) (R:Rel W.b m) {vals:List Value} (ea:VMs m args vals) (ht:1 <= m.s.toks) :
  wpAny W.b.M W.A (PySem.call (.ref c) vals) (OK W.b Q m) E m.s:=by
 have XK:W.K.In m.s.heap:=C.T.inK.keeps R.base
 refine wpAny_call ?_
 obtain ⟨σ,g,⟨hh,gg,d,t,os⟩⟩:=m
 refine make_core (makes_of XK I.makes) (looks_findIn XK I.find) (fun self => bind_fn XK self I.ty) (.inl rfl) ?_
 have k1:Grown hh ((hh.push emptyDict).push (instObj c hh.objs.size)):=fun _ o e => Heap.get?_push_of_some _ (Heap.get?_push_of_some _ e)
 have hx:((hh.push emptyDict).push (instObj c hh.objs.size)).get? (hh.objs.size + 1) = some (instObj c hh.objs.size):=by heap_get
 have hd:((hh.push emptyDict).push (instObj c hh.objs.size)).get? hh.objs.size = some emptyDict:=by heap_get
 generalize (hh.push emptyDict).push (instObj c hh.objs.size) = h1 at k1 hx hd
 have no:∀ x,(x = hh.objs.size + 1 \/ x = hh.objs.size) -> hh.get? x = none:=fun x hx => by
  rcases hx with rfl | rfl
  ·exact none_ge (Nat.le_succ _)
  ·exact get_size _
 have hc:∀ (P:Str -> Option Value -> Prop) (own:Addr -> Prop),(∀ k,P k none) -> (∀ x,own x ↔ (x = hh.objs.size + 1 \/ x = hh.objs.size)) -> InstC h1 c P (hh.objs.size + 1) own:=fun P own hp ho =>
  ⟨hh.objs.size,fun _ => none,hx,⟨emptyDict,#[],_,hd,rfl,(fun e he => by simp at he),by simp [UniqKeys],fun _ => rfl⟩,Nat.succ_ne_self _,hp,ho⟩
 have S1:StepH No g hh (g.add (hh.objs.size + 1) fun x => x = hh.objs.size + 1 \/ x = hh.objs.size) h1:=step_add k1 no
 have add:∀ cl,CellAt W.b h1 _ _ cl _ _ -> Rel W.b ⟨σ ++ [cl],g.add (hh.objs.size + 1) fun x => x = hh.objs.size + 1 \/ x = hh.objs.size,⟨h1,gg,d,t,os⟩⟩:=fun cl h => Rel.add (m:=⟨σ,g,⟨hh,gg,d,t,os⟩⟩) R rfl k1 no h
 have ret:∀ {cl:Cell} {X':Addr -> St -> Prop} {r s'},(∀ c σ,¬ X' c σ) -> Rel W.b ⟨σ ++ [cl],g.add (hh.objs.size + 1) fun x => x = hh.objs.size + 1 \/ x = hh.objs.size,⟨h1,gg,d,t,os⟩⟩ -> CallP W.b (W.A.under (.builtin "type.__call__" ⟨.ref c :: vals,[]⟩)) (fun v σ' => v = .none /\ Q (.ref σ.length) σ') X' ⟨σ ++ [cl],g.add (hh.objs.size + 1) fun x => x = hh.objs.size + 1 \/ x = hh.objs.size,⟨h1,gg,d,t,os⟩⟩ r s' ->
   ∃ v',r = .ok (.ret v') /\ v' = .none /\ OK W.b Q ⟨σ,g,⟨hh,gg,d,t,os⟩⟩ (.ref (hh.objs.size + 1)) s':=fun {cl X' r s'} hX R1 z => by
  cases r with
  | error x => obtain ⟨_,_,_,_,x,_⟩:=z; exact (hX _ _ x).elim
  | ok fl =>
   cases fl with
   | ret v' => exact ⟨v',rfl,made_end (m:=⟨σ,g,⟨hh,gg,d,t,os⟩⟩) R R1 S1 z⟩
   | _ => exact z.elim
 have B:=under_aok C.B c vals
 have ev:=Step.vrs (m':=⟨σ,_,⟨h1,gg,d,t,os⟩⟩) S1 R ea
 have self:(g.add (hh.objs.size + 1) fun x => x = hh.objs.size + 1 \/ x = hh.objs.size).at σ.length (.ref (hh.objs.size + 1)):=R.n ▸ G.add_new
 unfold clsF at q
 cases hp:W.cx.packed c with
 | true =>
  rw [hp] at q
  obtain ⟨qn,q⟩:=q
  cases hk:W.b.k with
  | zero => rw [C.packed hk c] at hp; cases hp
  | succ k =>
   have R1:=add (.pack [.inst c []]) (by
    show PackN W.b.w h1 W.b.k _ _ _
    rw [hk]
    refine ⟨⟨1,fun _ => hh.objs.size + 1,fun _ x => x = hh.objs.size + 1 \/ x = hh.objs.size,fun _ => False⟩,rfl,Nat.one_pos,fun i c' hi => ?_,fun i j x hi hj _ _ => (Nat.lt_one_iff.mp hi).trans (Nat.lt_one_iff.mp hj).symm,rfl,fun x => ⟨fun hx => ⟨0,Nat.one_pos,hx⟩,fun ⟨_,_,hx⟩ => hx⟩⟩
    cases i with
    | zero => cases hi; exact hc _ _ (fun _ => rfl) fun _ => Iff.rfl
    | succ i => cases hi)
   have hρ:(g.add (hh.objs.size + 1) fun x => x = hh.objs.size + 1 \/ x = hh.objs.size).ρ σ.length = hh.objs.size + 1:=if_pos R.n.symm
   have e:∀ x:Cell,(σ ++ [Cell.pack [.inst c []]]).set σ.length x = σ ++ [x]:=fun x => by rw [List.set_append_right _ _ (Nat.le_refl _),Nat.sub_self]; rfl
   have pc:=pack_call (n:=σ.length) hk (C.inner k hk) (Z:=fun v σ' => v = .none /\ Q (.ref σ.length) σ') (kw:=[]) (kvals:=[]) (by simp only [e]; exact q) B R1 List.getElem?_concat_length qn rfl ev rfl ht (X:=fun _ _ => False) hρ
   exact codeAny_mono pc fun r s' z => by obtain ⟨v',rfl,h⟩:=ret (fun _ _ => id) R1 z; exact h
 | false =>
  rw [hp] at q
  have R1:=add (.inst c []) (hc _ _ (fun _ => rfl) fun _ => Iff.rfl)
  exact codeAny_mono (C.call f (.ref σ.length :: args) [] _ _ _ q _ B (.ref (hh.objs.size + 1) :: vals) [] R1 ⟨_,_,self,ev⟩ rfl ht) fun r s' z => by obtain ⟨v',rfl,h⟩:=ret (fun _ _ => id) R1 z; exact h
theorem sound_meth {W:Wd} {P:PX} {fr:Fr} (C:CtxOk W) {mk:Bool} {r:SelR} {bo:Option BM} {a:V} {va fv:Value} {args:List V} {kw:List (Str × V)} {K:KE} (Z:At W fr m) (q:methP mk r bo a args kw ⟨W.cx,P⟩ fr m.σ K) (hs:SelIs W.K bo r fv) (ea:VM m a va) {vals:List Value} {kvals:List (Str × Value)} (es:VMs m args vals) (ek:KVs (VM m) kw kvals) :
  wpAny W.b.M W.A (PySem.call fv (va :: vals) kvals) (OK W.b (fun v σ => K v ⟨W.cx,P⟩ fr σ) m) (EX W P.exc) m.s:=by
 cases hs with
 | fn f =>
  obtain ⟨q⟩:=q
  exact own_end Z (call_own C.call q C.B.aok Z.R ⟨_,_,ea,es⟩ ek Z.t)
 | pk f =>
  obtain ⟨q⟩:=q
  unfold innF at q
  obtain ⟨n,σL,rfl,e,na,nk,q⟩:=q
  obtain ⟨hm⟩:=ea
  cases hk:W.b.k with
  | zero =>
   have z:PackN W.b.w m.s.heap W.b.k σL (m.g.ρ n) (m.g.ow n):=Z.R.at_ n _ e
   rw [hk] at z; exact z.elim
  | succ k =>
   refine own_end Z (wpAny_call (codeAny_mono (pack_call (X:=fun c σ => P.exc c fr σ) hk (C.inner k hk) (Z:=fun v σ => K v ⟨W.cx,P⟩ fr σ) q C.B.aok Z.R e na nk es ek Z.t rfl) fun r s' z => ?_))
   cases r with
   | error e => exact z
   | ok fl => cases fl <;> exact z
 | bm f e =>
  subst e
  cases kw with
  | cons _ _ => exact q.elim
  | nil =>
   cases ek
   obtain ⟨v,σ,q,h⟩:=q
   exact sound_bm C.sys Z.R ea es q h
end
noncomputable abbrev But (I:Addr) (h h':Heap):Prop:=∀ a o,a ≠ I -> h.get? a = some o -> h'.get? a = some o
theorem But.of {I:Addr} {h h':Heap} (e:Heap.SameBut I h h'):But I h h':=fun b o hb q => (e.2 b hb).trans q
structure Tch (b:Hb) (m:Ms) (D:Addr) (s':Shared):Prop where
 but:But D m.s.heap s'.heap
 io:(sio s') = (sio m.s)
 unow:m.g.unow D
 base:b.get? D = none
 live:m.g.forb D -> ∃ o,s'.heap.get? D = some o
 other:∀ o,m.s.heap.get? D = some o -> Other o \/ (m.g.forb D /\ o.cls = .type "list")
 frm:FrOk b m.g m.s.heap -> FrOk b m.g s'.heap
section
variable {b:Hb} {m m':Ms} {A:Around} {E:Value -> Shared -> Prop} {D I:Addr} {s':Shared}
theorem Tch.mono (T:Tch b m D s'):VMono m.s.heap s'.heap m.g.free m.g.free m.g.at m.g.at where
 t:=fun a items ⟨n,e⟩ => ⟨n,T.but a _ (fun q => (T.other _ (q ▸ e)).elim Other.tup fun z => absurd (Value.type.inj z.2) (by decide)) e⟩
 g:=fun a i j k t u x e => T.but a _ (fun q => (T.other _ (q ▸ (show m.s.heap.get? a = some _ from e))).elim Other.rng fun z => absurd (Value.type.inj z.2) (by decide)) e
 l:=fun a items hf ⟨n,e⟩ => ⟨hf,n,T.but a _ (fun q => (T.other _ (q ▸ e)).elim Other.lst fun z => hf.2 (q ▸ z.1)) e⟩
 r:=fun _ _ e => e
theorem Tch.rel (T:Tch b m D s') (R:Rel b m):Rel b ⟨m.σ,m.g,s'⟩ :=
 ⟨R.n,fun i c e => (R.at_ i c e).mono T.mono fun x o hx e' => T.but x o (fun q => T.unow i (R.get e) (q ▸ hx)) e',R.sep,fun a o e => T.but a o (fun q => by rw [q,T.base] at e; cases e) (R.base a o e),R.ge,
  fun x hx => (Classical.em (x = D)).elim (fun q => q ▸ T.live (q ▸ hx)) fun q => (R.forb x hx).elim fun o e => ⟨o,T.but x o q e⟩,R.disj,T.io.trans R.ios,T.frm R.fr⟩
theorem Tch.vr (T:Tch b m D s') {v:V} {x:Value} (e:VM m v x):VM ⟨m.σ,m.g,s'⟩ v x:=e.mono T.mono
theorem Tch.vrs (T:Tch b m D s') {v:List V} {x:List Value} (e:VMs m v x):VMs ⟨m.σ,m.g,s'⟩ v x:=e.mono T.mono
theorem Tch.fr {env:Env} {L:Str -> V -> Prop} (T:Tch b m D s') (hD:¬ OwnF env D) (F:FRL b env L m):FRL b env L ⟨m.σ,m.g,s'⟩ :=
 F.mono (fun a o ha e => .inl (T.but a o (fun q => hD (q ▸ ha)) e)) (fun _ _ e => T.vr e) (fun _ _ _ e => e) fun _ _ e => e
theorem Tch.plain (T:Tch b m D s') {a:Addr} {items:Array Value} (ha:a ≠ D) (e:m.s.heap.PlainList a items):s'.heap.PlainList a items:=e.elim fun n e => ⟨n,T.but a _ ha e⟩
theorem StepH.touch {own:Addr -> Prop} {g g':G} {h h' h'':Heap} (S:StepH own g h g' h') (hk:But D h' h'') (hD:h.get? D = none):StepH own g h g' h'':=by
 have ne:∀ a o,h.get? a = some o -> a ≠ D:=fun a o e q => by rw [q,hD] at e; cases e
 refine ⟨S.n,S.rho,S.forb,S.new,fun a o e hu hn => ?_,fun a o e => let ⟨o',e'⟩:=S.live a o e; ⟨o',hk a o' (ne a o e) e'⟩,fun a o e q n => hk a o (ne a o e) (S.exact a o e q n)⟩
 rcases S.keep a o e hu hn with z | ⟨c,sl,z⟩
 ·exact .inl (hk _ _ (ne a o e) z)
 ·exact .inr ⟨c,sl,hk _ _ (ne a o e) z⟩
noncomputable def rchars (x:Str):List V:=x.cps.toList.map fun c => .str ⟨#[c]⟩
noncomputable def rints (a b c:Int):List V:=(List.range (Builtin.Range.rangeSize a b c).toNat).map fun (i:Nat) => .int (a + i * c)
inductive IterAt (m:Ms) (I:Addr) (i:Nat):List V -> V -> Prop
 | str (x:Str) (t:Tok) (ok:PyData.strOk x = true) (st:m.s.heap.IsStrIter I "str_ascii_iterator" x t i \/ m.s.heap.IsStrIter I "str_iterator" x t i):IterAt m I i (rchars x) (.str x)
 | tup (l:List V) (a:Addr) (its:Array Value) (st:m.s.heap.IsTupleIter I a i) (p:PlainTup m.s.heap a its) (r:VMs m l its.toList):IterAt m I i l (.tup l)
 | lst (l:List V) (a:Addr) (its:Array Value) (st:m.s.heap.IsListIter I a i) (u:m.g.free a) (p:m.s.heap.PlainList a its) (r:VMs m l its.toList):IterAt m I i l (.lst l)
 | ref (k:Nat) (l:List V) (hk:k < m.g.n) (st:m.s.heap.IsListIter I (m.g.ρ k) i):IterAt m I i l (.ref k)
 | rng (a c d:Int) (st:IsRangeIter m.s.heap I (a + (i:Nat) * d) (((Builtin.Range.rangeSize a c d).toNat:Int) - (i:Nat)) d):IterAt m I i (rints a c d) (.rng a c d)
inductive ItObj (m:Ms) (I:Addr):Prop | mk (o:Obj) (T:String) (e:m.s.heap.get? I = some o) (c:o.cls = .type T) (f:∃ vs,o.data = .fields vs) (k:T ≠ "tuple" /\ T ≠ "range" /\ T ≠ "list")
 (z:["enumerate","zip","dict_itemiterator","dict_reverseitemiterator","odict_iterator","itertools.zip_longest","itertools.pairwise"].contains T = false)
theorem IterAt.obj {src:V} {items:List V} {i:Nat} (e:IterAt m I i items src):ItObj m I:=by
 cases e with
 | str x t ok st =>
  rcases st with ⟨o,ho,hc,hd⟩ | ⟨o,ho,hc,hd⟩
  ·exact ⟨o,_,ho,hc,⟨_,hd⟩,by decide,by decide⟩
  ·exact ⟨o,_,ho,hc,⟨_,hd⟩,by decide,by decide⟩
 | tup l a its st => obtain ⟨o,ho,hc,hd⟩:=st; exact ⟨o,_,ho,hc,⟨_,hd⟩,by decide,by decide⟩
 | lst l a its st => obtain ⟨o,ho,hc,hd⟩:=st; exact ⟨o,_,ho,hc,⟨_,hd⟩,by decide,by decide⟩
 | ref k l hk st => obtain ⟨o,ho,hc,hd⟩:=st; exact ⟨o,_,ho,hc,⟨_,hd⟩,by decide,by decide⟩
 | rng a c d st => exact ⟨_,_,(show m.s.heap.get? I = some _ from st),rfl,⟨_,rfl⟩,by decide,by decide⟩
theorem ItObj.nodict (e:ItObj m I) {o:Obj} (q:m.s.heap.get? I = some o):∀ es n,o.data ≠ .dict es n:=fun es n z => by
 obtain ⟨o',T,e1,c,⟨vs,f⟩,_⟩:=e
 rw [e1] at q; cases q; rw [f] at z; cases z
theorem ItObj.some (e:ItObj m I):∃ o,m.s.heap.get? I = some o:=by obtain ⟨o,T,e,_⟩:=e; exact ⟨o,e⟩
theorem ItObj.touch (e:ItObj m I) (hb:But I m.s.heap s'.heap) (io:(sio s') = (sio m.s)) (hu:m.g.unow I) (h0:b.get? I = none) (hf:¬ m.g.forb I):Tch b m I s':=by
 obtain ⟨o,T,e1,c,⟨vs,f⟩,k,_⟩:=id e
 refine ⟨hb,io,hu,h0,fun q => (hf q).elim,fun o' q => ?_,FrOk.byKind hb e1 (e.nodict e1)⟩
 rw [e1] at q; cases q
 exact .inl (.k (by rw [c]; exact fun z => k.1 (Value.type.inj z)) (by rw [c]; exact fun z => k.2.2 (Value.type.inj z)) (by rw [c]; exact fun z => k.2.1 (Value.type.inj z)))
theorem IterAt.mono {src:V} {items:List V} {i:Nat} (e:IterAt m I i items src) (hI:∀ o,m.s.heap.get? I = some o -> m'.s.heap.get? I = some o) (M:VMono m.s.heap m'.s.heap m.g.free m'.g.free m.g.at m'.g.at) (hn:m.g.n <= m'.g.n) (hr:∀ i,i < m.g.n -> m'.g.ρ i = m.g.ρ i):IterAt m' I i items src:=by
 cases e with
 | str x t ok st => exact .str x t ok (st.imp (fun ⟨o,ho,r⟩ => ⟨o,hI o ho,r⟩) fun ⟨o,ho,r⟩ => ⟨o,hI o ho,r⟩)
 | tup l a its st p r => obtain ⟨o,ho,q⟩:=st; exact .tup _ a its ⟨o,hI o ho,q⟩ (M.t _ _ p) (r.mono M)
 | lst l a its st u p r => obtain ⟨o,ho,q⟩:=st; exact .lst _ a its ⟨o,hI o ho,q⟩ (M.l _ _ u p).1 (M.l _ _ u p).2 (r.mono M)
 | ref k l hk st => obtain ⟨o,ho,q⟩:=st; exact .ref k _ (Nat.lt_of_lt_of_le hk hn) ⟨o,hI o ho,by rw [hr k hk]; exact q⟩
 | rng a c d st => exact .rng a c d (hI _ st)
theorem IterAt.step {own:Addr -> Prop} {src:V} {items:List V} {i:Nat} (e:IterAt m I i items src) (R:Rel b m) (S:Step own m m') (P:Plainly own m.s.heap) (hu:m.g.unow I) (ho:¬ own I):IterAt m' I i items src :=
 e.mono (fun o q => (S.keep I o q hu ho).exact (e.obj.nodict q)) (Step.mono S R P) S.n S.rho
theorem Tch.iter {src:V} {items:List V} {i:Nat} (T:Tch b m D s') (hI:I ≠ D) (e:IterAt m I i items src):IterAt ⟨m.σ,m.g,s'⟩ I i items src:=e.mono (fun o q => T.but I o hI q) T.mono (Nat.le_refl _) fun _ _ => rfl
theorem size_nonneg (a b c:Int):0 <= Builtin.Range.rangeSize a b c:=by
 unfold Builtin.Range.rangeSize
 split <;> split <;> first | lia | (have:=Int.ediv_nonneg (a:=b - a - 1) (b:=c) (by lia) (by lia); lia) | (have:=Int.ediv_nonneg (a:=a - b - 1) (b:=-c) (by lia) (by lia); lia)
theorem iter_start {src:V} {items:List V} {x:Value} (R:Rel b m) (e:VM m src x) (q:itemsOf m.σ src = some items) {P:Value -> Shared -> Prop}
  (hP:∀ o tk,IterAt ⟨m.σ,m.g,{ m.s with heap:=m.s.heap.push o,toks:=tk }⟩ m.s.heap.objs.size 0 items src -> P (.ref m.s.heap.objs.size) { m.s with heap:=m.s.heap.push o,toks:=tk }):wpAny b.M A (pyIter x) P E m.s:=by
 cases src with
 | lst l =>
  cases q
  obtain ⟨a,its,hu,hp,r⟩:=e
  exact wpAny_pyIter_list hp.isList (hP _ m.s.toks (.lst _ a its ⟨_,Heap.get?_push_size _ rfl,rfl,rfl⟩ hu (hp.elim fun n e => ⟨n,Heap.get?_push_of_some _ e⟩) (VMs.grown (σ:=m.σ) (s':={ m.s with heap:=m.s.heap.push _ }) grown_push r)))
 | tup l =>
  cases q
  obtain ⟨a,its,hp,r⟩:=e
  exact wpAny_pyIter_tuple hp.isTuple (hP _ m.s.toks (.tup _ a its ⟨_,Heap.get?_push_size _ rfl,rfl,rfl⟩ (hp.elim fun n e => ⟨n,Heap.get?_push_of_some _ e⟩) (VMs.grown (σ:=m.σ) (s':={ m.s with heap:=m.s.heap.push _ }) grown_push r)))
 | str y =>
  cases q
  obtain ⟨t,ok⟩:=e
  cases ha:y.cps.all (· < 128)
  ·exact wpAny_pyIter_wide ha (hP _ _ (.str y t ok (.inr ⟨_,Heap.get?_push_size _ rfl,rfl,rfl⟩)))
  ·exact wpAny_pyIter_ascii ha (hP _ _ (.str y t ok (.inl ⟨_,Heap.get?_push_size _ rfl,rfl,rfl⟩)))
 | rng a0 b0 c0 =>
  have q:(if Builtin.Range.small a0 b0 c0 = true then some (rints a0 b0 c0) else none) = some items:=q
  by_cases hs:Builtin.Range.small a0 b0 c0 = true
  ·rw [if_pos hs] at q; cases q
   obtain ⟨a,t,u,v,hr⟩:=e
   refine wpAny_pyIter_range hr hs (hP _ m.s.toks (.rng a0 b0 c0 ?_))
   show IsRangeIter _ _ (_ + ((0:Nat):Int) * _) (_ - ((0:Nat):Int)) _
   rw [Int.toNat_of_nonneg (size_nonneg _ _ _)]
   simpa using Heap.get?_push_size _ rfl
  ·rw [if_neg hs] at q; cases q
 | ref n =>
  obtain ⟨hn⟩:=e
  obtain ⟨its,hp,r,hw⟩:=R.at_ n _ (lstAt_of q)
  exact wpAny_pyIter_list hp.isList (hP _ m.s.toks (.ref n _ hn ⟨_,Heap.get?_push_size _ rfl,rfl,rfl⟩))
 | _ => cases q
theorem V.rng_of {v:V} {p:Int × Int × Int} (h:v.rng? = some p):v = .rng p.1 p.2.1 p.2.2:=by cases v <;> cases h; rfl
theorem any_inv {α:Type} {o:Option α} {f:α -> Bool} (h:o.any f = true):∃ a,o = some a /\ f a = true:=by
 cases o with
 | none => cases h
 | some a => exact ⟨a,rfl,h⟩
mutual
theorem V.eqb_eq:∀ {a b:V},V.eqb a b = true -> b = a
 | .none,b,h => V.none_of h
 | .bool _,b,h => V.bool_of (beq_iff_eq.mp h)
 | .int _,b,h => V.int_of (beq_iff_eq.mp h)
 | .str _,b,h => V.str_of (beq_iff_eq.mp h)
 | .tup l,b,h => by obtain ⟨k,e,h⟩:=any_inv h; rw [V.tup_of e,V.eqbs_eq h]
 | .lst l,b,h => by obtain ⟨k,e,h⟩:=any_inv h; rw [V.lst_of e,V.eqbs_eq h]
 | .rng ..,b,h => V.rng_of (beq_iff_eq.mp h)
 | .ref _,b,h => V.ref_of (beq_iff_eq.mp h)
theorem V.eqbs_eq:∀ {a b:List V},V.eqbs a b = true -> b = a
 | [],b,h => List.isEmpty_iff.mp h
 | v :: r,b,h => by
  cases b with
  | nil => cases h
  | cons u s =>
   have h:=Bool.and_eq_true_iff.mp h
   rw [V.eqb_eq h.1,V.eqbs_eq h.2]
end
theorem keep_list {n:Nat} {items:List V} {σ:St} (h:keepB (.ref n) items σ = true):σ[n]? = some (.list items):=by
 obtain ⟨l,e,h⟩:=any_inv h
 rw [V.eqbs_eq h]; exact lstAt_of e
theorem items_get {its:Array Value} {items:List V} {i:Nat} {v:V} {m:Ms} (r:VMs m items its.toList) (hv:items[i]? = some v):∃ x,its[i]? = some x /\ VM m v x:=(r.get hv).imp fun x q => ⟨items_at q.1,q.2⟩
theorem iter_item {src v:V} {items:List V} {i:Nat} (R:Rel b m) (e:IterAt m I i items src) (hu:m.g.unow I) (hb:b.get? I = none) (hf:¬ m.g.forb I) (hk:keepB src items m.σ = true) (hv:items[i]? = some v) {P:Option Value -> Shared -> Prop}
  (hP:∀ x s',Tch b m I s' -> VM ⟨m.σ,m.g,s'⟩ v x -> IterAt ⟨m.σ,m.g,s'⟩ I (i + 1) items src -> P (some x) s'):wpAny b.M A (pyNext (.ref I)) P E m.s:=by
 have tch:∀ {h' tk},Heap.SameBut I m.s.heap h' -> Tch b m I { m.s with heap:=h',toks:=tk }:=fun {h' tk} hs => e.obj.touch (s':={ m.s with heap:=h',toks:=tk }) (.of hs) rfl hu hb hf
 obtain ⟨o,T,e1,hc,_,kk,_⟩:=e.obj
 have nl:∀ {a its},m.s.heap.PlainList a its -> a ≠ I:=fun {a its} hp q => by
  obtain ⟨n,e⟩:=hp
  rw [q,e1] at e; cases e; exact kk.2.2 (Value.type.inj hc).symm
 have nt:∀ {a its},PlainTup m.s.heap a its -> a ≠ I:=fun {a its} hp q => by
  obtain ⟨n,e⟩:=hp
  rw [q,e1] at e; cases e; exact kk.1 (Value.type.inj hc).symm
 cases e with
 | str x t ok st =>
  unfold rchars at hv
  rw [List.getElem?_map] at hv
  obtain ⟨c,hc,rfl⟩:=Option.map_eq_some_iff.mp hv
  rw [Array.getElem?_toList] at hc
  rcases st with st | st
  ·exact wpAny_pyNext_ascii_item st hc fun h' st' hs => hP _ _ (tch hs) ⟨_,strOk_one ok hc⟩ (.str x t ok (.inl st'))
  ·exact wpAny_pyNext_wide_item st hc fun h' st' hs => hP _ _ (tch hs) ⟨_,strOk_one ok hc⟩ (.str x t ok (.inr st'))
 | tup l a its st hp r =>
  obtain ⟨x,hx,hxv⟩:=items_get r hv
  exact wpAny_pyNext_tuple_item st hp.isTuple hx fun h' st' hs => hP _ _ (tch hs) ((tch hs).vr hxv) (.tup _ a its st' (hp.elim fun n e => ⟨n,(hs.2 _ (nt hp)).trans e⟩) ((tch hs).vrs r))
 | lst l a its st hfr hp r =>
  obtain ⟨x,hx,hxv⟩:=items_get r hv
  exact wpAny_pyNext_list_item st hp.isList hx fun h' st' hs => hP _ _ (tch hs) ((tch hs).vr hxv) (.lst _ a its st' hfr (hp.elim fun n e => ⟨n,(hs.2 _ (nl hp)).trans e⟩) ((tch hs).vrs r))
 | ref k l hm st =>
  obtain ⟨its,hp,r,hw⟩:=R.at_ k _ (keep_list hk)
  obtain ⟨x,hx,hxv⟩:=items_get r hv
  exact wpAny_pyNext_list_item st hp.isList hx fun h' st' hs => hP _ _ (tch hs) ((tch hs).vr hxv) (.ref k _ hm st')
 | rng a c d st =>
  unfold rints at hv
  rw [List.getElem?_map] at hv
  obtain ⟨j,hj,rfl⟩:=Option.map_eq_some_iff.mp hv
  obtain ⟨hj1,hj2⟩:=List.getElem?_eq_some_iff.mp hj
  rw [List.length_range] at hj1
  rw [List.getElem_range] at hj2
  subst hj2
  refine wpAny_pyNext_range_item st (by lia) fun h' st' hs => hP _ _ (tch hs) ⟨_⟩ (.rng a c d ?_)
  have e1:a + ((i + 1:Nat):Int) * d = a + (i:Int) * d + d:=by rw [Int.natCast_add,Int.add_mul,Int.add_assoc]; exact congrArg (fun z => a + (i * d + z)) (Int.one_mul d)
  have e2:(((Builtin.Range.rangeSize a c d).toNat:Nat):Int) - ((i + 1:Nat):Int) = ((Builtin.Range.rangeSize a c d).toNat:Int) - (i:Int) - 1:=by lia
  rw [e1,e2]; exact st'
theorem iter_done {src:V} {items:List V} {i:Nat} (hh:A.handled = none) (R:Rel b m) (e:IterAt m I i items src) (hu:m.g.unow I) (hb:b.get? I = none) (hf:¬ m.g.forb I) (hk:keepB src items m.σ = true) (hv:items[i]? = none) {P:Option Value -> Shared -> Prop}
  (hP:∀ s',Tch b m I s' -> P none s'):wpAny b.M A (pyNext (.ref I)) P E m.s:=by
 have fin:∀ h',Heap.ExtBut I m.s.heap h' -> P none { m.s with heap:=h' }:=fun h' q => hP _ (e.obj.touch (s':={ m.s with heap:=h' }) (fun a o ha e => q a o ha e) rfl hu hb hf)
 have none_at:∀ {its:Array Value},VMs m items its.toList -> its[i]? = none:=fun {its} r => by rw [Array.getElem?_eq_none_iff,r.size]; exact List.getElem?_eq_none_iff.mp hv
 cases e with
 | str x t ok st =>
  unfold rchars at hv
  rw [List.getElem?_map,Option.map_eq_none_iff,Array.getElem?_toList] at hv
  rcases st with st | st
  ·exact wpAny_pyNext_ascii_end hh st hv fin
  ·exact wpAny_pyNext_wide_end hh st hv fin
 | tup l a its st hp r => exact wpAny_pyNext_tuple_end hh st hp.isTuple (none_at r) fin
 | lst l a its st hfr hp r => exact wpAny_pyNext_list_end hh st hp.isList (none_at r) fin
 | ref k l hm st =>
  obtain ⟨its,hp,r,hw⟩:=R.at_ k _ (keep_list hk)
  exact wpAny_pyNext_list_end hh st hp.isList (none_at r) fin
 | rng a c d st =>
  unfold rints at hv
  rw [List.getElem?_map,Option.map_eq_none_iff,List.getElem?_eq_none_iff,List.length_range] at hv
  exact wpAny_pyNext_range_end hh st (by lia) fin
end
structure Sc where
 sc:Scope
 mu:List Str
noncomputable def ScRel (S:Sc) (env:Env):Prop:=∀ x,env.kindOf x = S.sc.names.lookup x \/ (S.sc.names.lookup x = some .free /\ env.kindOf x = some .cell)
noncomputable def notDebug (x:Str):Bool:=!(x == ("__debug__":Str)) && !(x == ("__classdict__":Str))
theorem notDebug_debug {x:Str} (q:notDebug x = true):(x == ("__debug__":Str)) = false /\ (x == ("__classdict__":Str)) = false :=
 (Bool.and_eq_true_iff.mp q).imp (Bool.not_eq_true' _).mp (Bool.not_eq_true' _).mp
noncomputable def updL (L:Str -> V -> Prop) (x:Str) (v:V) (y:Str) (u:V):Prop:=(y = x /\ u = v) \/ (y ≠ x /\ L y u)
section
variable {b:Hb} {m:Ms} {A:Around} {E:Value -> Shared -> Prop} {S:Sc} {env:Env} {L:Str -> V -> Prop}
theorem load_local (F:FRL b env L m) {x:Str} {v:V} (hl:L x v) (hk:env.kindOf x = some .local \/ env.kindOf x = some .cell \/ env.kindOf x = some .free) (hd:notDebug x = true) {pos:Pos} {P:Value -> Shared -> Prop} (hP:∀ v',VM m v v' -> P v' m.s) :
  wpAny b.M A (eval (.Name x pos) env) P E m.s:=by
 obtain ⟨d1,d2⟩:=notDebug_debug hd
 refine wpAny_Name ?_ d1
 rcases hk with hk | hk
 ·obtain ⟨f,hn,hv⟩:=F.ns
  obtain ⟨v',e1,e2⟩:=hv x v hl hk
  exact wpAny_loadName_local F.st.kind hk hn e1 (hP _ e2)
 ·obtain ⟨ca,u,e1,e2,e3⟩:=F.cells x hk
  obtain ⟨v',rfl,e4⟩:=e3 v hl
  rcases hk with hk | hk
  ·exact wpAny_loadName_cell F.st.kind hk e1 e2 (hP _ e4)
  ·exact wpAny_loadName_free F.st.kind hk e1 e2 (hP _ e4) d2
theorem load_at {s:Shared} (hE:EnvOk env) {mg mb:Str -> Option Value} (n1:s.heap.Ns mainGlobals mg) (n2:s.heap.Ns builtinsNs mb) {x:Str} {v:Value} (e:AtGl mg mb x v) (hk:env.kindOf x = some .globalImplicit) (hd:notDebug x = true) {pos:Pos} {P:Value -> Shared -> Prop} (hP:P v s) :
  wpAny b.M A (eval (.Name x pos) env) P E s:=by
 refine Name_function_global hE.kind hk ?_ (notDebug_debug hd).1
 rw [<- hE.glob] at n1; rw [<- hE.bi] at n2
 rcases e with e | ⟨e1,e2⟩
 ·exact loadGlobal_global n1 e hP
 ·exact loadGlobal_builtin n1 e1 n2 e2 hP
theorem load_global {s:Shared} (G:GlobR b.heap) (base:∀ a o,b.get? a = some o -> s.heap.get? a = some o) (hE:EnvOk env) {x:Str} {gv:GV} (hl:tabGl.lookup x = some gv) (hk:env.kindOf x = some .globalImplicit) (hd:notDebug x = true) {pos:Pos} {P:Value -> Shared -> Prop} (hP:∀ v',GVIs b.heap gv v' -> P v' s) :
  wpAny b.M A (eval (.Name x pos) env) P E s:=by
 obtain ⟨mg,mb,n1,n2,hv,_⟩:=G
 obtain ⟨v,e,hg⟩:=hv x gv hl
 exact load_at hE (n1.at' fun o e => base _ o e) (n2.at' fun o e => base _ o e) e hk hd (hP _ hg)
theorem gv_const (R:Rel b m) {v:V} {x:Value} (e:GVIs b.heap (.const v) x):VM m v x :=
 VR.mono (U:=fun _ => False) (R:=fun _ _ => False) (h:=b.heap) ⟨fun a items ⟨n,e⟩ => ⟨n,R.base _ _ e⟩,fun a i j k t u x e => R.base _ _ e,fun _ _ q => q.elim,fun _ _ q => q.elim⟩ e
theorem kind_same (H:ScRel S env) {x:Str} {k:NameKind} (hk:k ≠ .free) (e:S.sc.names.lookup x = some k):env.kindOf x = some k:=by
 rcases H x with h | ⟨h,_⟩
 ·rw [h,e]
 ·rw [e] at h; cases h; exact absurd rfl hk
theorem kind_free (H:ScRel S env) {x:Str} (e:S.sc.names.lookup x = some .free):env.kindOf x = some .cell \/ env.kindOf x = some .free:=by
 rcases H x with h | ⟨h,h'⟩
 ·exact .inr (h.trans e)
 ·exact .inl h'
inductive Stored (b:Hb) (env:Env) (L:Str -> V -> Prop) (m:Ms) (x:Str) (v:V) (s':Shared):Prop
 | mk (D:Addr) (T:Tch b m D s') (own:OwnF env D) (o:Obj) (e:s'.heap.get? D = some o) (F:FRL b env (updL L x v) ⟨m.σ,m.g,s'⟩) (t:m.s.toks <= s'.toks) (loc:env.kindOf x = some .local -> D = env.locals)
theorem step_but {own:Addr -> Prop} {g:G} {h h':Heap} {a:Addr} {oa:Obj} (hs:But a h h') (ha:own a) (hl:h'.get? a = some oa):StepH own g h g h' :=
 have ne:∀ c,¬ own c -> c ≠ a:=fun c hn q => hn (q ▸ ha)
 ⟨Nat.le_refl _,fun _ _ => rfl,rfl,fun i x hi hx => .inl ⟨hi,hx⟩,fun c o e _ hn => .inl (hs c o (ne c hn) e),fun c o e => (Classical.em (c = a)).elim (fun q => ⟨oa,q ▸ hl⟩) fun q => ⟨o,hs c o q e⟩,fun c o e _ hn => hs c o (ne c hn) e⟩
theorem Stored.step {x:Str} {v:V} {s':Shared} (z:Stored b env L m x v s'):Step (OwnF env) m ⟨m.σ,m.g,s'⟩:=by
 obtain ⟨D,T,own,o,e,_⟩:=z
 exact step_but T.but own e
theorem Stored.vr {x:Str} {v:V} {s':Shared} (z:Stored b env L m x v s') {u:V} {y:Value} (e:VM m u y):VM ⟨m.σ,m.g,s'⟩ u y:=by
 obtain ⟨D,T,_⟩:=z
 exact T.vr e
theorem store_name (R:Rel b m) (F:FRL b env L m) {x:Str} {v:V} {x':Value} (e:VM m v x') (hk:env.kindOf x = some .local \/ env.kindOf x = some .cell) {P:Unit -> Shared -> Prop} (hP:∀ s',Stored b env L m x v s' -> P () s'):wpAny b.M A (storeName env x x') P E m.s:=by
 have hp:(env.scope.kind == .class || (env.scope.kind == .module && env.locals != env.globals)) = false:=by rw [F.st.kind]; rfl
 have nm:∀ y u,updL L x v y u -> env.kindOf y ≠ some .globalImplicit:=fun y u hy => by
  rcases hy with ⟨rfl,_⟩ | hy
  ·rcases hk with hk | hk <;> rw [hk] <;> exact nofun
  ·exact F.names y u hy.2
 have mk:∀ {D s'},OwnF env D -> Heap.SameBut D m.s.heap s'.heap -> (sio s') = (sio m.s) -> (FrOk b m.g m.s.heap -> FrOk b m.g s'.heap) -> Tch b m D s':=fun {D s'} oL hs io fr =>
  ⟨.of hs,io,(F.unow _ oL).1.1,(F.unow _ oL).2,fun q => ((F.unow _ oL).1.2 q).elim,fun o q => .inl (F.plainly _ o oL q),fr⟩
 rcases hk with hk | hk
 ·obtain ⟨f,hn,hv⟩:=F.ns
  refine wpAny_storeName_local hk hn (fun h' hn' hs => ?_) hp
  have T:Tch b m env.locals { m.s with heap:=h',toks:=m.s.toks + 1 }:=mk (.inl rfl) hs rfl (FrOk.byDict (But.of hs) (let ⟨o,es,ep,q,d,_⟩:=hn'; ⟨o,q,es,ep,d⟩))
  obtain ⟨o,ho⟩:∃ o,h'.get? env.locals = some o:=let ⟨o,_,_,q,_⟩:=hn'; ⟨o,q⟩
  refine hP _ ⟨_,T,.inl rfl,o,ho,⟨F.st,⟨_,hn',fun y u hy hky => ?_⟩,fun y hy => ?_,fun y ca hy => (F.ex y ca hy).elim fun u e2 => ⟨u,e2.sameBut hs (F.st.apart _ _ hy)⟩,F.unow,nm⟩,Nat.le_succ _,fun _ => rfl⟩
  ·rcases hy with ⟨rfl,rfl⟩ | ⟨q,hy⟩
   ·exact ⟨x',if_pos rfl,T.vr e⟩
   ·obtain ⟨v',e1,e2⟩:=hv y u hy hky
    exact ⟨v',(if_neg q).trans e1,T.vr e2⟩
  ·obtain ⟨ca,u,e1,e2,e3⟩:=F.cells y hy
   refine ⟨ca,u,e1,e2.sameBut hs (F.st.apart _ _ e1),fun z hz => ?_⟩
   rcases hz with ⟨rfl,_⟩ | ⟨_,hz⟩
   ·rcases hy with hy | hy <;> rw [hk] at hy <;> cases hy
   ·obtain ⟨v',q1,q2⟩:=e3 z hz
    exact ⟨v',q1,T.vr q2⟩
 ·obtain ⟨ca,u,c1,c2,c3⟩:=F.cells x (.inl hk)
  refine wpAny_storeName_cell F.st.kind hk c1 c2 fun h' hc' hs => ?_
  have oL:OwnF env ca:=.inr ⟨x,c1⟩
  have T:Tch b m ca { m.s with heap:=h' }:=mk oL hs rfl (let ⟨o,q,d⟩:=c2; FrOk.byKind (But.of hs) q (fun es n z => by rw [d] at z; cases z))
  obtain ⟨o,ho⟩:∃ o,h'.get? ca = some o:=let ⟨o,q,_⟩:=hc'; ⟨o,q⟩
  refine hP _ ⟨_,T,oL,o,ho,⟨F.st,?_,fun y hy => ?_,fun y cy hy => ?_,F.unow,nm⟩,Nat.le_refl _,fun q => by rw [hk] at q; cases q⟩
  ·obtain ⟨f,hn,hv⟩:=F.ns
   refine ⟨f,hn.sameBut hs (Ne.symm (F.st.apart _ _ c1)),fun y z hy hky => ?_⟩
   rcases hy with ⟨rfl,_⟩ | ⟨_,hy⟩
   ·rw [hk] at hky; cases hky
   ·obtain ⟨v',e1,e2⟩:=hv y z hy hky
    exact ⟨v',e1,T.vr e2⟩
  ·by_cases q:y = x
   ·subst q
    refine ⟨ca,some x',c1,hc',fun z hz => ?_⟩
    rcases hz with ⟨_,rfl⟩ | ⟨hz,_⟩
    ·exact ⟨x',rfl,T.vr e⟩
    ·exact absurd rfl hz
   ·obtain ⟨cy,uy,e1,e2,e3⟩:=F.cells y hy
    refine ⟨cy,uy,e1,e2.sameBut hs (fun z => q (F.st.inj _ _ _ e1 (z ▸ c1))),fun z hz => ?_⟩
    rcases hz with ⟨hz,_⟩ | ⟨_,hz⟩
    ·exact absurd hz q
    ·obtain ⟨v',q1,q2⟩:=e3 z hz
     exact ⟨v',q1,T.vr q2⟩
  ·by_cases q:cy = ca
   ·exact ⟨_,q ▸ hc'⟩
   ·exact (F.ex y cy hy).elim fun uy e2 => ⟨uy,e2.sameBut hs q⟩
end
noncomputable def slot (x:Str):List Str -> Option Nat
 | [] => none
 | y :: r => bif y == x then some 0 else (slot x r).map (· + 1)
theorem slot_get {x:Str} {ns:List Str}:∀ {i:Nat},slot x ns = some i -> ns[i]? = some x:=by
 induction ns with
 | nil => exact fun h => nomatch h
 | cons y r ih =>
  intro i h
  rw [slot] at h
  cases q:y == x with
  | true => rw [q] at h; cases h; rw [beq_iff_eq.mp q]; rfl
  | false =>
   rw [q] at h
   obtain ⟨j,e,rfl⟩:=Option.map_eq_some_iff.mp h
   exact ih e
theorem getF_get {l:Fr}:∀ {i:Nat} {v:V},getF l i = some v -> l[i]? = some (some v):=by
 induction l with
 | nil => exact fun h => nomatch h
 | cons a r ih =>
  intro i v h
  cases i with
  | zero => exact congrArg some h
  | succ i => exact ih h
theorem getF_set {l:Fr}:∀ {i j:Nat} {v u:V},getF (setF l i v) j = some u -> (j = i /\ u = v) \/ (j ≠ i /\ getF l j = some u):=by
 induction l with
 | nil => exact fun h => nomatch h
 | cons a r ih =>
  intro i j v u h
  cases i with
  | zero =>
   cases j with
   | zero => exact .inl ⟨rfl,(Option.some.inj h).symm⟩
   | succ j => exact .inr ⟨nofun,h⟩
  | succ i =>
   cases j with
   | zero => exact .inr ⟨nofun,h⟩
   | succ j => exact (ih h).imp (fun q => ⟨congrArg _ q.1,q.2⟩) fun q => ⟨fun z => q.1 (Nat.succ.inj z),q.2⟩
theorem nodup_get {ns:List Str} (nd:ns.Nodup) {i j:Nat} {x:Str} (hi:ns[i]? = some x) (hj:ns[j]? = some x):i = j:=by
 obtain ⟨a,_⟩:=List.getElem?_eq_some_iff.mp hi
 exact (List.getElem?_inj a nd).mp (hi.trans hj.symm)
theorem hold_set {ns:List Str} (nd:ns.Nodup) {fr:Fr} {x:Str} {i:Nat} (e:slot x ns = some i) {v:V} (y:Str) (u:V) (h:hold ns (setF fr i v) y u):updL (hold ns fr) x v y u:=by
 obtain ⟨j,e1,h⟩:=h
 rcases getF_set h with ⟨rfl,rfl⟩ | ⟨hj,h⟩
 ·rw [slot_get e] at e1; cases e1; exact .inl ⟨rfl,rfl⟩
 ·exact .inr ⟨fun q => hj (nodup_get nd e1 (q ▸ slot_get e)),j,e1,h⟩
theorem hold_var {ns:List Str} {fr:Fr} {x:Str} {i:Nat} {v:V} (e:slot x ns = some i) (h:getF fr i = some v):hold ns fr x v:=⟨i,slot_get e,h⟩
theorem Stored.at {W:Wd} {fr:Fr} {m:Ms} (Z:At W fr m) (nd:W.ns.Nodup) {x:Str} {i:Nat} (e:slot x W.ns = some i) {v:V} {s':Shared} (z:Stored W.b W.env (hold W.ns fr) m x v s'):At W (setF fr i v) ⟨m.σ,m.g,s'⟩:=by
 have st:=z.step
 obtain ⟨D,T,_,o,_,F,t,_⟩:=z
 exact ⟨T.rel Z.R,F.drop (hold_set nd e),Nat.le_trans Z.t t,Z.S.trans st⟩
noncomputable def G.hide (g:G) (D:Addr):G:=⟨g.n,g.ρ,g.ow,fun x => g.forb x \/ x = D⟩
noncomputable def G.show (g:G) (f:Addr -> Prop):G:=⟨g.n,g.ρ,g.ow,f⟩
noncomputable def G.take (g:G) (f:Addr -> Prop) (D:Addr):G:=(g.show f).add D (fun x => x = D)
section
variable {b:Hb} {m m':Ms} {A:Around} {E:Value -> Shared -> Prop} {env:Env} {L:Str -> V -> Prop} {D:Addr} {s':Shared} {Q:V -> St -> Prop}
theorem none_of {h:Heap} {a:Addr} {o:Obj} (hD:h.get? D = none) (e:h.get? a = some o):a ≠ D:=fun q => by rw [q,hD] at e; cases e
theorem hide_free {g:G} {h:Heap} (hD:h.get? D = none) {a:Addr} {o:Obj} (e:h.get? a = some o) (hf:g.free a):(g.hide D).free a:=⟨hf.1,fun q => q.elim hf.2 (none_of hD e)⟩
theorem hide_mono {g:G} {h h':Heap} (hg:Grown h h') (hD:h.get? D = none):VMono h h' g.free (g.hide D).free g.at (g.hide D).at:=.grown hg (fun _ _ e u => hide_free hD e u) fun _ _ e => e
theorem hide_rel (R:Rel b m) (io:(sio s') = (sio m.s)) (hg:Grown m.s.heap s'.heap) (hD:m.s.heap.get? D = none) (hD':∃ o,s'.heap.get? D = some o):Rel b ⟨m.σ,m.g.hide D,s'⟩ :=
 ⟨R.n,fun i c e => (R.at_ i c e).mono (hide_mono hg hD) fun x o _ e => hg _ _ e,R.sep,fun a o e => hg _ _ (R.base a o e),R.ge,fun x hx => hx.elim (fun hx => (R.forb x hx).elim fun o e => ⟨o,hg _ _ e⟩) fun e => e ▸ hD',
  fun i x hi hx q => q.elim (R.disj i x hi hx) fun e => R.no_own hi (e ▸ hx) hD,io.trans R.ios,FrOk.mono (fun L o hl e f => ⟨hide_free hD e hl,o,hg _ _ e,f⟩) R.fr⟩
theorem hide_fr (F:FRL b env L m) (hg:Grown m.s.heap s'.heap) (hD:m.s.heap.get? D = none):FRL b env L ⟨m.σ,m.g.hide D,s'⟩ :=
 F.mono (fun a o _ e => .inl (hg a o e)) (fun _ _ e => e.mono (hide_mono hg hD)) (fun a o e hf => hide_free hD e hf) fun _ _ e => e
theorem show_step {g g':G} {h h':Heap} (T:StepH No (g.hide D) h g' h'):StepH No g h (g'.show g.forb) h' :=
 ⟨T.n,T.rho,rfl,T.new,fun a o e hu hn => T.keep a o e hu hn,T.live,fun a o e q n => T.exact a o e (.inl q) n⟩
theorem show_free {g':G} {f:Addr -> Prop} (hf:∀ a,f a -> g'.forb a) (a:Addr) (u:g'.free a):(g'.show f).free a:=⟨u.1,fun q => u.2 (hf a q)⟩
theorem show_rel {f:Addr -> Prop} (hf:∀ a,f a -> m.g.forb a) (R:Rel b m):Rel b ⟨m.σ,m.g.show f,m.s⟩ :=
 ⟨R.n,fun i c e => (R.at_ i c e).mono (.same (show_free hf) fun _ _ e => e) fun _ _ _ e => e,R.sep,R.base,R.ge,fun x hx => R.forb x (hf x hx),fun i x hi hx q => R.disj i x hi hx (hf x q),R.ios,FrOk.mono (fun L o hl e f => ⟨show_free hf L hl,o,e,f⟩) R.fr⟩
theorem take_free {g':G} {f:Addr -> Prop} (hf:∀ a,f a -> g'.forb a) (hD:g'.forb D) (a:Addr) (u:g'.free a):(g'.take f D).free a:=by
 refine ⟨fun i hi hx => ?_,fun q => u.2 (hf a q)⟩
 rcases G.add_ow hi hx with ⟨_,q⟩ | ⟨q,q1⟩
 ·exact u.2 (q ▸ hD)
 ·exact u.1 i q q1
theorem take_mono {g':G} {h:Heap} {f:Addr -> Prop} (hf:∀ a,f a -> g'.forb a) (hD:g'.forb D):VMono h h g'.free (g'.take f D).free g'.at (g'.take f D).at:=.same (take_free hf hD) fun _ _ e => G.add_at (g:=g'.show f) e
theorem take_rel {f:Addr -> Prop} (hf:∀ a,f a -> m.g.forb a) (hD:m.g.forb D) (hfD:¬ f D) (h0D:b.get? D = none) (R:Rel b m) {c:Cell} (hc:CellAt b m.s.heap (m.g.take f D).free (m.g.take f D).at c D (fun x => x = D)):Rel b ⟨m.σ ++ [c],m.g.take f D,m.s⟩:=by
 refine ⟨(congrArg (· + 1) R.n).trans (List.length_append (as:=m.σ) (bs:=[c])).symm,fun i c' e => ?_,fun i j x hi hj hix hjx => ?_,R.base,fun i x hi hix => ?_,fun x hx => R.forb x (hf x hx),fun i x hi hix hq => ?_,R.ios,FrOk.mono (fun L o hl e f => ⟨take_free hf hD L hl,o,e,f⟩) R.fr⟩
 ·have e:(m.σ ++ [c])[i]? = some c':=e
  rcases Nat.lt_or_ge i m.σ.length with hi | hi
  ·rw [List.getElem?_append_left hi] at e
   have q:=G.add_lt (g:=m.g.show f) (a:=D) (own:=fun x => x = D) (R.n ▸ hi:i < m.g.n)
   exact q.1 ▸ q.2 ▸ (R.at_ i c' e).mono (take_mono hf hD) fun _ _ _ e => e
  ·have hl:i < m.σ.length + 1:=by have:=(List.getElem?_eq_some_iff.mp e).1; rwa [List.length_append] at this
   have hi:i = m.g.n:=(Nat.le_antisymm (Nat.le_of_lt_succ hl) hi).trans R.n.symm
   subst hi
   rw [R.n,List.getElem?_append_right (Nat.le_refl _),Nat.sub_self] at e
   cases e
   have q1:(m.g.take f D).ρ m.g.n = D:=if_pos rfl
   have q2:(m.g.take f D).ow m.g.n = fun x => x = D:=funext fun _ => if_pos rfl
   exact q1.symm ▸ q2.symm ▸ hc
 ·rcases G.add_ow hi hix with ⟨p,p1⟩ | ⟨p,p1⟩ <;> rcases G.add_ow hj hjx with ⟨q,q1⟩ | ⟨q,q1⟩
  ·exact p.trans q.symm
  ·exact absurd (p1 ▸ hD) (R.disj j x q q1)
  ·exact absurd (q1 ▸ hD) (R.disj i x p p1)
  ·exact R.sep i j x p q p1 q1
 ·rcases G.add_ow hi hix with ⟨_,q⟩ | ⟨q,q1⟩
  ·exact q ▸ h0D
  ·exact R.ge i x q q1
 ·rcases G.add_ow hi hix with ⟨_,q⟩ | ⟨q,q1⟩
  ·exact hfD (q ▸ hq)
  ·exact R.disj i x q q1 (hf x hq)
theorem take_step {g g':G} {h h':Heap} (T:StepH No (g.hide D) h g' h') (hD:h.get? D = none):StepH No g h (g'.take g.forb D) h':=by
 have T':=show_step T
 refine ⟨Nat.le_succ_of_le T.n,fun i hi => (G.add_lt (g:=g'.show g.forb) (Nat.lt_of_lt_of_le hi T.n)).1.trans (T.rho i hi),rfl,fun i x hi hix => ?_,T'.keep,T.live,T'.exact⟩
 rcases G.add_ow hi hix with ⟨_,q⟩ | ⟨q,q1⟩
 ·exact .inr (q ▸ hD)
 ·exact T.new i x q q1
inductive Late (b:Hb) (Q:V -> St -> Prop) (m m':Ms) (D:Addr):Prop
 | mk (v:V) (σ:St) (g:G) (q:Q v σ) (R:Rel b ⟨σ,g,m'.s⟩) (e:VM ⟨σ,g,m'.s⟩ v (.ref D)) (S:Step No m ⟨σ,g,m'.s⟩) (M:VMono m'.s.heap m'.s.heap m'.g.free g.free m'.g.at g.at) (f:∀ a,m'.g.free a -> g.free a)
theorem late_cell {c:Cell} (R:Rel b m) (R':Rel b m') (T:StepH No (m.g.hide D) m.s.heap m'.g m'.s.heap) (hD:m.s.heap.get? D = none) (q:Q (.ref m'.σ.length) (m'.σ ++ [c])) (hc:VMono m'.s.heap m'.s.heap m'.g.free (m'.g.take m.g.forb D).free m'.g.at (m'.g.take m.g.forb D).at -> CellAt b m'.s.heap (m'.g.take m.g.forb D).free (m'.g.take m.g.forb D).at c D fun x => x = D):Late b Q m m' D:=by
 have hf:∀ a,m.g.forb a -> m'.g.forb a:=fun a q => by rw [T.forb]; exact .inl q
 have hD':m'.g.forb D:=by rw [T.forb]; exact .inr rfl
 have M:=take_mono (h:=m'.s.heap) hf hD'
 exact ⟨.ref m'.σ.length,_,_,q,take_rel hf hD' (R.none_forb hD) (R.hb_none hD) R' (hc M),R'.n ▸ G.add_new (g:=m'.g.show m.g.forb),take_step T hD,M,take_free hf hD'⟩
theorem late_list {mk:Bool} {vs:List V} {ys:Array Value} {v:V} {σ:St} (q:okL mk vs m'.σ = .ok v σ) (hq:Q v σ) (R:Rel b m) (R':Rel b m') (T:StepH No (m.g.hide D) m.s.heap m'.g m'.s.heap) (hD:m.s.heap.get? D = none) (hp:m'.s.heap.PlainList D ys) (hv:VMs m' vs ys.toList):Late b Q m m' D:=by
 cases mk with
 | false =>
  obtain ⟨_,rfl,rfl⟩:=okL_false q
  have hf:∀ a,m.g.forb a -> m'.g.forb a:=fun a q => by rw [T.forb]; exact .inl q
  have M:VMono m'.s.heap m'.s.heap m'.g.free (m'.g.show m.g.forb).free m'.g.at (m'.g.show m.g.forb).at:=.same (show_free hf) fun _ _ e => e
  exact ⟨.lst vs,m'.σ,m'.g.show m.g.forb,hq,show_rel hf R',⟨D,ys,⟨fun i hi hx => R'.disj i D hi hx (by rw [T.forb]; exact .inr rfl),R.none_forb hD⟩,hp,hv.mono M⟩,show_step T,M,show_free hf⟩
 | true =>
  obtain ⟨_,rfl,rfl⟩:=okL_true q
  exact late_cell R R' T hD hq fun M => ⟨ys,hp,hv.mono M,fun _ => Iff.rfl⟩
theorem Late.fr {env:Env} {L:Str -> V -> Prop} {σ:St} {g:G} (M:VMono m'.s.heap m'.s.heap m'.g.free g.free m'.g.at g.at) (f:∀ a,m'.g.free a -> g.free a) (F:FRL b env L m'):FRL b env L ⟨σ,g,m'.s⟩ :=
 F.mono (fun _ _ _ e => .inl e) (fun _ _ e => e.mono M) (fun a _ _ => f a) fun _ _ e => e
end
theorem TE.run0 {W:Wd} {fr:Fr} {m:Ms} {K:KE} {R:V -> St -> Prop} {t:Sem Value} {c:CE} {E:Value -> Shared -> Prop} (T:TE W t c) (Z:At W fr m) (q:ev c ⟨W.cx,⟨R,noX⟩⟩ fr m.σ K) {Q:Value -> Shared -> Prop} (h:∀ v v' m',K v ⟨W.cx,⟨R,noX⟩⟩ fr m'.σ -> VM m' v v' -> Step No m m' -> At W fr m' -> Q v' m'.s):wpAny W.b.M W.A t Q E m.s :=
 wpAny_mono (T.run Z q h) (fun _ _ z => z) fun _ _ z => EX.no (fun _ _ _ => id) z
theorem TB.run0 {W:Wd} {fr:Fr} {m:Ms} {K:Bool -> EE -> Fr -> St -> Prop} {R:V -> St -> Prop} {t:Sem Bool} {c:CE} {E:Value -> Shared -> Prop} (T:TB W t c) (Z:At W fr m) (q:ev c ⟨W.cx,⟨R,noX⟩⟩ fr m.σ (fun v e fr σ => tK v fun b => K b e fr σ)) {Q:Bool -> Shared -> Prop} (h:∀ c m',K c ⟨W.cx,⟨R,noX⟩⟩ fr m'.σ -> Step No m m' -> At W fr m' -> Q c m'.s):wpAny W.b.M W.A t Q E m.s :=
 wpAny_mono (T.run Z q h) (fun _ _ z => z) fun _ _ z => EX.no (fun _ _ _ => id) z
noncomputable def turnC (cc:Option CE) (ce:CE) (kf:Fr) (cx:Cx) (x:V) (σ:St) (R:Option V -> St -> Prop):Prop:=match cc with
 | none => ev ce ⟨cx,⟨fun y σ => R (some y) σ,noX⟩⟩ (some x :: kf) σ retN
 | some c => ev c ⟨cx,⟨fun y σ => R (some y) σ,noX⟩⟩ (some x :: kf) σ fun t e fr σ => tK t fun b => Br b (ev ce e fr σ retN) (R none σ)
inductive TestsR (W:Wd):List Expr -> Option CE -> Prop
 | no:TestsR W [] none
 | one (c:Expr) (cc:CE) (T:TB W (isTrue c W.env (eval c W.env)) cc):TestsR W [c] (some cc)
section
variable {M:Model} {A:Around} {E:Value -> Shared -> Prop} {s:Shared} {env:Env}
theorem tests_nil {f:Expr -> Bool -> Sem (ForInStep Bool)} {P:Bool -> Shared -> Prop} (h:P true s):wpAny M A (forIn ([]:List Expr) true f) P E s:=by
 rw [List.forIn_nil]; exact wpAny_pure h
theorem tests_one {c:Expr} {P:Bool -> Shared -> Prop} (h:wpAny M A (isTrue c env (eval c env)) P E s) :
  wpAny M A (forIn [c] true fun c r => if r = true then do let ok <- isTrue c env (eval c env); pure (ForInStep.yield ok) else pure (ForInStep.yield r)) P E s:=by
 rw [List.forIn_cons]
 refine wpAny_bind ?_
 rw [if_pos rfl]
 refine wpAny_bind (wpAny_mono h (fun b s' q => wpAny_pure ?_) fun _ _ z => z)
 show wpAny M A (forIn [] b _) P E s'
 rw [List.forIn_nil]; exact wpAny_pure q
end
structure Stat (W:Wd) (cenv:Env) (m1:Ms) (D I:Addr):Prop where
 I1:m1.s.heap.get? I = none
 D1:m1.s.heap.get? D = none
 C1:m1.s.heap.get? cenv.locals = none
 ID:I ≠ D
 IC:I ≠ cenv.locals
 DC:D ≠ cenv.locals
 I0:W.b.get? I = none
 D0:W.b.get? D = none
 If:¬ m1.g.forb I
 cI:¬ OwnF cenv I
 eI:¬ OwnF W.env I
 cD:¬ OwnF cenv D
 eD:¬ OwnF W.env D
 eC:¬ OwnF W.env cenv.locals
structure CB (W:Wd) (cenv:Env) (Lc L:Str -> V -> Prop) (m1:Ms) (D:Addr) (acc:List V) (m:Ms):Prop where
 R:Rel W.b m
 T:StepH No (m1.g.hide D) m1.s.heap m.g m.s.heap
 Fc:FRL W.b cenv Lc m
 F:FRL W.b W.env L m
 acc:∃ ys,m.s.heap.PlainList D ys /\ VMs m acc ys.toList
 tk:1 <= m.s.toks
structure CI (W:Wd) (cenv:Env) (Lc L:Str -> V -> Prop) (m1:Ms) (D I:Addr) (src:V) (items acc:List V) (i:Nat) (m:Ms):Prop where
 B:CB W cenv Lc L m1 D acc m
 it:IterAt m I i items src
 uI:m.g.unow I
section
variable {W:Wd} {cenv:Env} {Lc L:Str -> V -> Prop} {m1:Ms} {D I:Addr} {src:V} {items acc:List V} {i:Nat} {m:Ms}
theorem CB.touch (H:CB W cenv Lc L m1 D acc m) {X:Addr} {s':Shared} (T:Tch W.b m X s') (h1:m1.s.heap.get? X = none) (h2:FRL W.b cenv Lc ⟨m.σ,m.g,s'⟩) (h3:¬ OwnF W.env X) (h4:D ≠ X) (t:1 <= s'.toks):CB W cenv Lc L m1 D acc ⟨m.σ,m.g,s'⟩ :=
 ⟨T.rel H.R,H.T.touch T.but h1,h2,T.fr h3 H.F,H.acc.elim fun ys q => ⟨ys,T.plain h4 q.1,T.vrs q.2⟩,t⟩
theorem CI.step (H:CI W cenv Lc L m1 D I src items acc i m) {m':Ms} (S:Step No m m') (R:Rel W.b m') (t:1 <= m'.s.toks):CI W cenv Lc L m1 D I src items acc i m' :=
 ⟨⟨R,H.B.T.trans S,H.B.Fc.step H.B.R S,H.B.F.step H.B.R S,H.B.acc.elim fun ys q => ⟨ys,q.1.elim fun n e => ⟨n,S.exact D _ e (by rw [H.B.T.forb]; exact .inr rfl) id⟩,Step.vrs S H.B.R q.2⟩,t⟩,H.it.step H.B.R S Plainly.none H.uI id,H.it.obj.some.elim fun o e => S.unow e H.uI⟩
theorem CI.push {E:Value -> Shared -> Prop} (Z:Stat W cenv m1 D I) (H:CI W cenv Lc L m1 D I src items acc i m) {v:V} {v':Value} (ev:VM m v v') (hb:acc.length <= big) {Q:Shared -> Prop} (hQ:∀ m',m'.σ = m.σ -> CI W cenv Lc L m1 D I src items (acc ++ [v]) i m' -> Q m'.s):wpAny W.b.M W.A (call (.builtin "list.append") [.ref D,v']) (fun _ s => Q s) E m.s:=by
 obtain ⟨ys,y1,y2⟩:=H.B.acc
 have fD:m.g.forb D:=by rw [H.B.T.forb]; exact .inr rfl
 refine wpAny_with_toks H.B.tk (wpAny_list_append_plain y1 (fun h5 p1 p2 tk5 => ?_) (by rw [y2.size]; exact Nat.le_trans hb big_le))
 have T:Tch W.b m D { m.s with heap:=h5 }:=by
  obtain ⟨n,e⟩:=y1
  exact ⟨.of p2,rfl,fun j hj hx => H.B.R.disj j D hj hx fD,Z.D0,fun _ => p1.elim fun n e => ⟨_,e⟩,fun o q => .inr ⟨fD,by rw [e] at q; cases q; rfl⟩,FrOk.byKind (But.of p2) e nofun⟩
 exact hQ ⟨m.σ,m.g,{ m.s with heap:=h5 }⟩ rfl ⟨⟨T.rel H.B.R,H.B.T.touch T.but Z.D1,T.fr Z.cD H.B.Fc,T.fr Z.eD H.B.F,⟨_,p1,by rw [Array.toList_push]; exact (T.vrs y2).append ⟨_,_,T.vr ev,rfl⟩⟩,tk5⟩,T.iter Z.ID H.it,H.uI⟩
inductive LoopI {α:Type} (len:Nat) (Go:Nat -> α -> St -> Prop) (C:α -> Nat -> Ms -> Prop) (n:Nat) (s:Shared):Prop | mk (i:Nat) (a:α) (m:Ms) (e:m.s = s) (hn:n = len - i) (hi:i <= len) (go:Go i a m.σ) (H:C a i m)
theorem codeAny_turns {elt it:Expr} {x:Str} {px:Pos} {ifs:List Expr} {sc:Scope} {pos:Pos} {fr:Fr} {cc:Option CE} {ce:CE} {ns':List Str} {kf:Fr} {Kf:List V -> EE -> Fr -> St -> Prop} {e:EE} {R:Result -> Shared -> Prop}
  (hh:W.A.handled = none) (hx:cenv.kindOf x = some .local) (hlo:∀ v,¬ Lc x v) (Z:Stat W cenv m1 D I) (hL:∀ v y u,hold ns' (some v :: kf) y u -> updL Lc x v y u)
  (He:∀ O,TE { W with env:=cenv,ns:=ns',O:=O } (eval elt cenv) ce) (Ht:∀ O,TestsR { W with env:=cenv,ns:=ns',O:=O } ifs cc)
  (fin:∀ vs m,Kf vs e fr m.σ -> CB W cenv Lc L m1 D vs m -> R (.ok .next) m.s)
  (hi:i <= items.length) (go:compP (keepB src items) (turnC cc ce kf W.cx) (items.drop i) acc e fr m.σ Kf) (H:CI W cenv Lc L m1 D I src items acc i m) :
  codeAny W.b.M W.A (.compLoop (.ListComp elt [⟨.Name x px,it,ifs,0⟩] sc pos) 0 (.ref I) (.ref D) cenv) R m.s:=by
 generalize hG:(fun (i:Nat) (acc:List V) (σ:St) => compP (keepB src items) (turnC cc ce kf W.cx) (items.drop i) acc e fr σ Kf) = Go
 have hg:∀ i acc σ,Go i acc σ ↔ compP (keepB src items) (turnC cc ce kf W.cx) (items.drop i) acc e fr σ Kf:=fun _ _ _ => hG ▸ Iff.rfl
 clear hG
 refine codeAny_compLoop_tests (LoopI items.length Go (CI W cenv Lc L m1 D I src items)) ?_ _ ⟨i,acc,m,rfl,rfl,hi,(hg _ _ _).mpr go,H⟩
 clear go H hi
 rintro n _ ⟨i,acc,m,rfl,rfl,hi,go,H⟩
 have go:=(hg _ _ _).mp go
 have fI:¬ m.g.forb I:=by rw [H.B.T.forb]; exact fun q => q.elim Z.If Z.ID
 cases hv:items[i]? with
 | none =>
  have hl:=List.getElem?_eq_none_iff.mp hv
  rw [List.drop_eq_nil_of_le hl] at go
  refine wpAny_with_toks H.B.tk (iter_done hh H.B.R H.it H.uI Z.I0 fI go.1 hv fun s' T htk => ?_)
  exact fin acc ⟨m.σ,m.g,s'⟩ go.2 (H.B.touch T Z.I1 (T.fr Z.cI H.B.Fc) Z.eI (Ne.symm Z.ID) htk)
 | some v =>
  obtain ⟨hi',hv'⟩:=List.getElem?_eq_some_iff.mp hv
  rw [List.drop_eq_getElem_cons hi',hv'] at go
  obtain ⟨⟨q1,qb⟩,q2⟩:=go
  refine wpAny_with_toks H.B.tk (iter_item H.B.R H.it H.uI Z.I0 fI q1 hv fun v' s' T ew it' htk => ?_)
  have B1:=H.B.touch T Z.I1 (T.fr Z.cI H.B.Fc) Z.eI (Ne.symm Z.ID) htk
  refine wpAny_assign_Name (store_name (m:=⟨m.σ,m.g,s'⟩) B1.R B1.Fc ew (.inl hx) fun s2 z => ?_)
  obtain ⟨C,T2,_,o,_,F2,htk2,hC⟩:=z
  cases hC hx
  have B2:=B1.touch T2 Z.C1 (F2.drop fun y u hy => .inr ⟨fun q => hlo u (q ▸ hy),hy⟩) Z.eC Z.DC (Nat.le_trans htk htk2)
  have I2:CI W cenv Lc L m1 D I src items acc (i + 1) ⟨m.σ,m.g,s2⟩:=⟨B2,T2.iter Z.IC it',H.uI⟩
  have Z2:At { W with env:=cenv,ns:=ns',O:=⟨m.σ,m.g,s2⟩ } (some v :: kf) ⟨m.σ,m.g,s2⟩:=⟨B2.R,F2.drop (hL v),B2.tk,StepH.refl⟩
  have next:∀ acc' m',compP (keepB src items) (turnC cc ce kf W.cx) (items.drop (i + 1)) acc' e fr m'.σ Kf -> CI W cenv Lc L m1 D I src items acc' (i + 1) m' -> ∃ n,n < items.length - i /\ LoopI items.length Go (CI W cenv Lc L m1 D I src items) n m'.s :=
   fun acc' m' a b => ⟨items.length - (i + 1),Nat.sub_lt_sub_left hi' (Nat.lt_succ_self i),i + 1,acc',m',rfl,rfl,hi',(hg _ _ _).mpr a,b⟩
  have elem:∀ {fr2:Fr} {m3:Ms} {E:Value -> Shared -> Prop},At { W with env:=cenv,ns:=ns',O:=⟨m.σ,m.g,s2⟩ } fr2 m3 -> CI W cenv Lc L m1 D I src items acc (i + 1) m3 -> ev ce ⟨W.cx,⟨fun y σ => compP (keepB src items) (turnC cc ce kf W.cx) (items.drop (i + 1)) (accF acc (some y)) e fr σ Kf,noX⟩⟩ fr2 m3.σ retN ->
    wpAny W.b.M W.A (eval elt cenv) (fun x s₄ => wpAny W.b.M W.A (call (.builtin "list.append") [.ref D,x]) (fun _ s₅ => ∃ n,n < items.length - i /\ LoopI items.length Go (CI W cenv Lc L m1 D I src items) n s₅) E s₄) E m3.s:=fun {fr2 m3 E} Z3 I3 q => by
   refine (He _).run0 (W:={ W with env:=cenv,ns:=ns',O:=⟨m.σ,m.g,s2⟩ }) Z3 q fun y y' m4 q4 ey S4 Z4 => ?_
   exact (I3.step S4 Z4.R Z4.t).push Z ey qb fun m5 e5 I5 => next _ m5 (e5 ▸ q4) I5
  cases Ht ⟨m.σ,m.g,s2⟩ with
  | no => exact tests_nil (elem Z2 I2 q2)
  | one c cc Tc =>
   refine tests_one (Tc.run0 (W:={ W with env:=cenv,ns:=ns',O:=⟨m.σ,m.g,s2⟩ }) Z2 q2 fun ok m3 q3 S3 Z3 => ?_)
   have I3:=I2.step S3 Z3.R Z3.t
   cases ok with
   | true =>
    cases q3 with
    | t _ q => exact elem Z3 I3 q
    | f e _ => cases e
   | false =>
    cases q3 with
    | t e _ => cases e
    | f _ q => exact next _ m3 q I3
end
theorem lookup_head {α:Type} {x y:Str} {v:α} {r:List (Str × α)}:((x,v) :: r).lookup y = if y = x then some v else r.lookup y:=by
 rw [List.lookup]
 by_cases q:y = x
 ·subst q; rw [beq_self_eq_true,if_pos rfl]
 ·rw [beq_eq_false_iff_ne.mpr q,if_neg q]
inductive ClosR (sc:Scope) (env:Env):Prop | mk (cl:List (Str × Addr)) (e:closureFor sc env = pure cl) (sub:∀ x ca,cl.lookup x = some ca -> env.cells.lookup x = some ca) (has:∀ p ∈ sc.names,p.2 = .free -> ∃ ca,cl.lookup p.1 = some ca)
theorem closure_ex {sc:Scope} {env:Env} (h:∀ p ∈ sc.names,p.2 = .free -> ∃ ca,env.cells.lookup p.1 = some ca):ClosR sc env:=by
 have key:∀ (names:List (Str × NameKind)) (acc:List (Str × Addr)),(∀ p ∈ names,p.2 = .free -> ∃ ca,env.cells.lookup p.1 = some ca) -> (∀ x ca,acc.lookup x = some ca -> env.cells.lookup x = some ca) ->
   ∃ cl,(forIn names acc fun x r => if (x.2 == NameKind.free) = true then do let c <- cellOf env x.1; pure (ForInStep.yield ((x.1,c) :: r)) else pure (ForInStep.yield r):Sem (List (Str × Addr))) = pure cl /\ (∀ x ca,cl.lookup x = some ca -> env.cells.lookup x = some ca) /\
    ∀ x,((∃ ca,acc.lookup x = some ca) \/ (x,NameKind.free) ∈ names) -> ∃ ca,cl.lookup x = some ca:=by
  intro names
  induction names with
  | nil => exact fun acc _ ha => ⟨acc,by rw [List.forIn_nil],ha,fun x hx => hx.elim id fun q => nomatch q⟩
  | cons p r ih =>
   intro acc h ha
   obtain ⟨x,kd⟩:=p
   have hr:=fun p hp => h p (.tail _ hp)
   rw [List.forIn_cons]
   by_cases q:(kd == NameKind.free) = true
   ·obtain ⟨ca,e⟩:=h (x,kd) (.head _) (by simpa using q)
    obtain ⟨cl,e1,e2,e3⟩:=ih ((x,ca) :: acc) hr fun y cy hy => by
     rw [lookup_head] at hy
     by_cases z:y = x
     ·rw [if_pos z] at hy; cases hy; exact z ▸ e
     ·rw [if_neg z] at hy; exact ha y cy hy
    refine ⟨cl,?_,e2,fun y hy => e3 y ?_⟩
    ·rw [<- e1,if_pos q]
     unfold cellOf
     rw [show env.cells.lookup x = some ca from e]
     rfl
    ·by_cases z:y = x
     ·exact .inl ⟨ca,by rw [lookup_head,if_pos z]⟩
     ·rcases hy with hy | hy
      ·exact .inl (by rw [lookup_head,if_neg z]; exact hy)
      ·rcases List.mem_cons.mp hy with hy | hy
       ·cases hy; exact absurd rfl z
       ·exact .inr hy
   ·obtain ⟨cl,e1,e2,e3⟩:=ih acc hr ha
    refine ⟨cl,by rw [<- e1,if_neg q]; rfl,e2,fun y hy => e3 y (hy.imp_right fun hy => ?_)⟩
    rcases List.mem_cons.mp hy with hy | hy
    ·cases hy; exact absurd rfl q
    ·exact hy
 obtain ⟨cl,e1,e2,e3⟩:=key sc.names [] h (fun _ _ e => nomatch e)
 refine ⟨cl,?_,e2,fun p hp hk => e3 p.1 (.inr (hk ▸ hp))⟩
 unfold closureFor
 simp only [bind_pure]
 exact e1
noncomputable def keepNs (sc:Scope):List Str -> Nat -> List (Str × Nat)
 | [],_ => []
 | y :: r,k => bif sc.names.lookup y == some .free then (y,k) :: keepNs sc r (k + 1) else keepNs sc r (k + 1)
theorem keepNs_mem {sc:Scope} {ns:List Str}:∀ {k:Nat} {y:Str} {j:Nat},(y,j) ∈ keepNs sc ns k -> sc.names.lookup y = some .free /\ ∃ n,j = k + n /\ ns[n]? = some y:=by
 induction ns with
 | nil => exact fun h => nomatch h
 | cons z r ih =>
  intro k y j h
  have step:(y,j) ∈ keepNs sc r (k + 1) -> sc.names.lookup y = some .free /\ ∃ n,j = k + n /\ (z :: r)[n]? = some y:=fun h => by
   obtain ⟨q,n,e1,e2⟩:=ih h
   exact ⟨q,n + 1,by lia,e2⟩
  rw [keepNs] at h
  cases q:(sc.names.lookup z == some .free) with
  | false => rw [q] at h; exact step h
  | true =>
   rw [q] at h
   rcases List.mem_cons.mp h with h | h
   ·cases h; exact ⟨beq_iff_eq.mp q,0,rfl,rfl⟩
   ·exact step h
noncomputable def seenL (sc:Scope) (L:Str -> V -> Prop) (y:Str) (u:V):Prop:=sc.names.lookup y = some .free /\ L y u
noncomputable def innerNs (sc:Scope) (x:Str) (ns:List Str):List Str:=x :: (keepNs sc ns 0).map (·.1)
theorem hold_inner {sc:Scope} {x:Str} {ns:List Str} {fr:Fr} (hx:sc.names.lookup x = some .local) (v:V) (y:Str) (u:V) (h:hold (innerNs sc x ns) (some v :: ((keepNs sc ns 0).map (·.2)).map (getF fr)) y u):updL (seenL sc (hold ns fr)) x v y u:=by
 obtain ⟨i,e1,e2⟩:=h
 cases i with
 | zero => cases e1; cases e2; exact .inl ⟨rfl,rfl⟩
 | succ i =>
  have e2:=getF_get (show getF (((keepNs sc ns 0).map (·.2)).map (getF fr)) i = some u from e2)
  have e1:((keepNs sc ns 0).map (·.1))[i]? = some y:=e1
  rw [List.getElem?_map] at e1
  rw [List.getElem?_map,List.getElem?_map] at e2
  obtain ⟨⟨z,j⟩,e3,e1⟩:=Option.map_eq_some_iff.mp e1
  have e1:z = y:=e1
  subst e1
  rw [e3] at e2
  obtain ⟨q,n,rfl,e4⟩:=keepNs_mem (List.mem_of_getElem? e3)
  rw [Nat.zero_add] at e2
  exact .inr ⟨(fun e => by rw [e,hx] at q; cases q),q,n,e4,Option.some.inj e2⟩
theorem lookup_relabel {env:Env} {names:List (Str × NameKind)} {x:Str} :
  (names.map fun (n,k) => if (k == NameKind.free && env.scope.kind == .function && env.kindOf n == some .cell) then (n,NameKind.cell) else (n,k)).lookup x =
   (names.lookup x).map fun k => if (k == NameKind.free && env.scope.kind == .function && env.kindOf x == some .cell) then NameKind.cell else k:=by
 induction names with
 | nil => rfl
 | cons p r ih =>
  obtain ⟨n,k⟩:=p
  have e:(if (k == NameKind.free && env.scope.kind == .function && env.kindOf n == some .cell) = true then (n,NameKind.cell) else (n,k)) = (n,if (k == NameKind.free && env.scope.kind == .function && env.kindOf n == some .cell) = true then NameKind.cell else k):=by
   by_cases hc:(k == NameKind.free && env.scope.kind == .function && env.kindOf n == some .cell) = true
   ·rw [if_pos hc,if_pos hc]
   ·rw [if_neg hc,if_neg hc]
  rw [List.map_cons]
  dsimp only
  rw [e,lookup_head,lookup_head]
  by_cases hx:x = n
  ·subst hx; rw [if_pos rfl,if_pos rfl]; rfl
  ·rw [if_neg hx,if_neg hx]; exact ih
theorem relabel_kind {sc:Scope} {cl:List (Str × Addr)} {C:Addr} {env:Env} {mu:List Str}:ScRel ⟨sc,mu⟩ (compEnvC sc cl C env):=fun x => by
 show (relabel sc env).names.lookup x = _ \/ (_ /\ (relabel sc env).names.lookup x = _)
 have e:(relabel sc env).names.lookup x = _:=lookup_relabel
 rw [e]
 cases h:sc.names.lookup x with
 | none => exact .inl rfl
 | some kd =>
  rw [Option.map_some]
  by_cases hc:(kd == NameKind.free && env.scope.kind == .function && env.kindOf x == some .cell) = true
  ·rw [if_pos hc]
   have q:=(Bool.and_eq_true_iff.mp (Bool.and_eq_true_iff.mp hc).1).1
   have:kd = .free:=by simpa using q
   subst this
   exact .inr ⟨rfl,rfl⟩
  ·rw [if_neg hc]; exact .inl rfl
noncomputable def scOk (outer sc:Scope) (x:Str):Bool :=
 sc.kind == .function && sc.names.lookup x == some .local && (sc.names.all fun p => p.2 != .cell && (p.2 != .local || sc.names.lookup p.1 == some .local) && (p.2 != .free || outer.names.lookup p.1 == some .cell || outer.names.lookup p.1 == some .free))
structure ScOk (outer sc:Scope) (x:Str):Prop where
 kind:sc.kind = .function
 tgt:sc.names.lookup x = some .local
 loc:∀ p ∈ sc.names,p.2 = .local -> sc.names.lookup p.1 = some .local
 free:∀ p ∈ sc.names,p.2 = .free -> outer.names.lookup p.1 = some .cell \/ outer.names.lookup p.1 = some .free
 cell:∀ p ∈ sc.names,p.2 ≠ .cell
theorem scOk_of {outer sc:Scope} {x:Str} (h:scOk outer sc x = true):ScOk outer sc x:=by
 unfold scOk at h
 rw [Bool.and_eq_true,Bool.and_eq_true] at h
 obtain ⟨⟨h1,h2⟩,h3⟩:=h
 have h3:=List.all_eq_true.mp h3
 refine ⟨by simpa using h1,by simpa using h2,fun p hp hk => ?_,fun p hp hk => ?_,fun p hp hk => ?_⟩
 ·have:=h3 p hp; rw [hk] at this; simpa using this
 ·have:=h3 p hp; rw [hk] at this; simpa using this
 ·have:=h3 p hp; rw [hk] at this; cases this
section
variable {b:Hb} {m:Ms} {S:Sc} {env:Env} {L:Str -> V -> Prop}
theorem cenv_fr {sc:Scope} {x:Str} (HS:ScRel S env) (O:ScOk S.sc sc x) (F:FRL b env L m) {cl:List (Str × Addr)} {Ca:Addr} (c1:∀ x ca,cl.lookup x = some ca -> env.cells.lookup x = some ca) (c2:∀ p ∈ sc.names,p.2 = .free -> ∃ ca,cl.lookup p.1 = some ca)
  (hn:m.s.heap.Ns Ca fun _ => none) (hf:m.g.free Ca) (h0C:b.get? Ca = none) (hC:¬ OwnF env Ca):FRL b (compEnvC sc cl Ca env) (seenL sc L) m:=by
 have rk:=relabel_kind (sc:=sc) (cl:=cl) (C:=Ca) (env:=env) (mu:=[])
 have kf:∀ y,(compEnvC sc cl Ca env).kindOf y = some .cell \/ (compEnvC sc cl Ca env).kindOf y = some .free -> sc.names.lookup y = some .free:=fun y hy => by
  rcases rk y with e | ⟨e,_⟩
  ·rcases hy with hy | hy
   ·exact absurd rfl (O.cell _ (mem_of_lookup' (e.symm.trans hy)))
   ·exact e.symm.trans hy
  ·exact e
 have no:∀ y u (k:NameKind),k ≠ .cell -> k ≠ .free -> seenL sc L y u -> (compEnvC sc cl Ca env).kindOf y ≠ some k:=fun y u k h1 h2 hy hk => by
  rcases rk y with z | ⟨_,z⟩
  ·have e:=z.symm.trans hk
   rw [show (⟨sc,[]⟩:Sc).sc.names.lookup y = _ from hy.1] at e; cases e; exact h2 rfl
  ·rw [hk] at z; cases z; exact h1 rfl
 refine ⟨⟨O.kind,F.st.glob,F.st.bi,fun y ca hy q => hC (.inr ⟨y,(show ca = Ca from q) ▸ c1 _ _ hy⟩),fun y z ca hy hz => F.st.inj y z ca (c1 _ _ hy) (c1 _ _ hz)⟩,⟨_,hn,fun y u hy hk => absurd hk (no y u _ nofun nofun hy)⟩,fun y hy => ?_,fun y ca hy => F.ex y ca (c1 _ _ hy),fun a ha => ?_,fun y u hy => no y u _ nofun nofun hy⟩
 ·have e:=kf y hy
  obtain ⟨ca,hc⟩:=c2 (y,.free) (mem_of_lookup' e) rfl
  have ky:env.kindOf y = some .cell \/ env.kindOf y = some .free:=(O.free (y,.free) (mem_of_lookup' e) rfl).elim (fun z => .inl (kind_same HS nofun z)) (kind_free HS)
  obtain ⟨ca',u,e1,e2,e3⟩:=F.cells y ky
  rw [c1 _ _ hc] at e1; cases e1
  exact ⟨ca,u,hc,e2,fun z hz => e3 z hz.2⟩
 ·rcases ha with rfl | ⟨y,hy⟩
  ·exact ⟨hf,h0C⟩
  ·exact F.unow a (.inr ⟨y,c1 _ _ hy⟩)
theorem iter_self {A:Around} {E:Value -> Shared -> Prop} {I:Addr} {src:V} {items:List V} {i:Nat} (e:IterAt m I i items src) {P:Value -> Shared -> Prop} (h:P (.ref I) m.s):wpAny b.M A (pyIter (.ref I)) P E m.s:=by
 cases e with
 | str x t ok st =>
  rcases st with st | st
  ·exact wpAny_pyIter_striter_ascii st h
  ·exact wpAny_pyIter_striter_wide st h
 | tup l a its st => exact wpAny_pyIter_tupleiter st h
 | lst l a its st => exact wpAny_pyIter_listiter st h
 | ref k l hk st => exact wpAny_pyIter_listiter st h
 | rng a c d st => exact wpAny_pyIter_rangeiter st h
end
structure CompEnd (W:Wd) (m:Ms) (Ca:Addr) (m':Ms):Prop where
 ns:∃ f,m'.s.heap.Ns Ca f
 free:m'.g.free Ca
 base:W.b.get? Ca = none
 new:m.s.heap.get? Ca = none
 own:¬ OwnF W.env Ca
theorem CompEnd.tch {W:Wd} {m m':Ms} {Ca:Addr} (Z:CompEnd W m Ca m') (F:FrOk W.b m.g m.s.heap) {f:Str -> Option Value} {m2:Ms} (hg:m2.g = m'.g) (hn:m2.s.heap.Ns Ca f) {h':Heap} (hs:Heap.SameBut Ca m2.s.heap h'):Tch W.b m2 Ca { m2.s with heap:=h' } :=
 ⟨.of hs,rfl,hg ▸ Z.free.1,Z.base,fun z => (Z.free.2 (hg ▸ z)).elim,fun o e => by
  obtain ⟨o',es',ep,e1,e2,_⟩:=hn
  rw [e1] at e; cases e; exact .inl (.d _ _ e2),FrOk.but (But.of hs) (F.live Z.new)⟩
theorem StepH.new_none {own:Addr -> Prop} {g g':G} {h h':Heap} (S:StepH own g h g' h') {a:Addr} (e:h'.get? a = none):h.get? a = none:=by
 cases z:h.get? a with
 | none => rfl
 | some o => obtain ⟨o',e'⟩:=S.live a o z; rw [e] at e'; cases e'
section
variable {W:Wd} {P:PX} {fr:Fr} {m:Ms} {K:KE} {S:Sc}
theorem comp_run {use:Option (Value -> Sem Unit)} {elt it:Expr} {x:Str} {px:Pos} {ifs:List Expr} {sc:Scope} {pos:Pos} {mk:Bool} {ci ce:CE} {cc:Option CE} (C:CtxOk W) (HS:ScRel S W.env) (Hit:TE W (eval it W.env) ci)
  (He:∀ cenv O,ScRel ⟨sc,S.mu⟩ cenv -> TE { W with env:=cenv,ns:=innerNs sc x W.ns,O:=O } (eval elt cenv) ce) (Ht:∀ cenv O,ScRel ⟨sc,S.mu⟩ cenv -> TestsR { W with env:=cenv,ns:=innerNs sc x W.ns,O:=O } ifs cc)
  (hsc:scOk S.sc sc x = true) (hset:∀ y,foldedSetIterable it W.env y = pure y) (Z:At W fr m)
  (q:ev ci ⟨W.cx,P⟩ fr m.σ fun v e fr σ => ElO (itemsOf σ v) e fr σ fun items e fr σ => compP (keepB v items) (turnC cc ce (((keepNs sc W.ns 0).map (·.2)).map (getF fr)) e.cx) items [] e fr σ fun vs e fr σ => El e fr (okL mk vs σ) K)
  {Q:Value -> Shared -> Prop} (hP:∀ v Da Ca m',K v ⟨W.cx,P⟩ fr m'.σ -> VM m' v (.ref Da) -> Step No m m' -> At W fr m' -> CompEnd W m Ca m' -> compPost W.b.M W.A (EX W P.exc) use Q (.ref Da) Ca (.ok .next) m'.s) :
  wpAny W.b.M W.A (comprehension (.ListComp elt [⟨.Name x px,it,ifs,0⟩] sc pos) sc W.env (firstIterPos [⟨.Name x px,it,ifs,0⟩] pos) (newList []) false (eval it W.env) use) Q (EX W P.exc) m.s:=by
 have O:=scOk_of hsc
 obtain ⟨cl,hcl,c1,c2⟩:=closure_ex (sc:=sc) (env:=W.env) fun p hp hk => by
  obtain ⟨ca,_,e,_⟩:=Z.F.cells p.1 ((O.free p hp hk).elim (fun z => .inl (kind_same HS nofun z)) (kind_free HS))
  exact ⟨ca,e⟩
 refine wpAny_comprehension_free rfl hset hcl O.kind (fun y hy hl => O.loc y hy hl) ?_
 refine Hit.run Z q fun src xv m1 q1 ex S1 Z1 => ?_
 obtain ⟨items,q1,q2⟩:=q1
 refine wpAny_with_toks Z1.t (iter_start Z1.R ex q1 fun oI tk it1 htk => ?_)
 refine wpAny_newObj_type (wpAny_newFunctionEnv O.cell (by intro y hy; simp at hy) (fun h4 hn4 hs4 => ?_) O.kind)
 dsimp only at hn4 hs4 ⊢
 generalize hH2:m1.s.heap.push oI = H2 at hn4 hs4 it1 ⊢
 have z2:H2.objs.size = m1.s.heap.objs.size + 1:=by rw [<- hH2,Heap.size_push]
 generalize hH3:H2.push { cls:=.type "list",dict:=none,data:=.seq ([]:List Value).toArray } = H3 at hn4 hs4 ⊢
 have z3:H3.objs.size = m1.s.heap.objs.size + 2:=by rw [<- hH3,Heap.size_push,z2]
 have g34:Grown H3 h4:=fun b o e => (hs4.2 b (Nat.ne_of_lt (Heap.lt_size e))).trans (Heap.get?_push_of_some _ e)
 have g24:Grown H2 h4:=fun b o e => g34 b o (hH3 ▸ Heap.get?_push_of_some _ e)
 have g14:Grown m1.s.heap h4:=fun b o e => g24 b o (hH2 ▸ Heap.get?_push_of_some _ e)
 have hDl:h4.PlainList H2.objs.size #[]:=⟨0,g34 _ _ (hH3 ▸ Heap.get?_push_size _ rfl)⟩
 have I1:m1.s.heap.get? m1.s.heap.objs.size = none:=get_size _
 have D1:m1.s.heap.get? H2.objs.size = none:=none_ge (by rw [z2]; exact Nat.le_succ _)
 have D2:H2.get? H2.objs.size = none:=get_size _
 have C1:m1.s.heap.get? H3.objs.size = none:=none_ge (by rw [z3]; exact Nat.le_add_right _ _)
 have dI:m1.s.heap.objs.size ≠ H2.objs.size:=by rw [z2]; exact Nat.ne_of_lt (Nat.lt_succ_self _)
 have dC:m1.s.heap.objs.size ≠ H3.objs.size:=by rw [z3]; exact Nat.ne_of_lt (Nat.lt_add_of_pos_right (by decide))
 have dD:H2.objs.size ≠ H3.objs.size:=by rw [z2,z3]; exact Nat.ne_of_lt (Nat.lt_succ_self _)
 clear hH2 hH3 z2 z3 hs4 g34
 generalize m1.s.heap.objs.size = I at *
 generalize H2.objs.size = D at *
 generalize H3.objs.size = Ca at *
 have nE:∀ a,m1.s.heap.get? a = none -> ¬ OwnF W.env a:=fun a e q => by obtain ⟨o,z⟩:=Z1.F.own_some q; rw [e] at z; cases z
 have own:∀ a,OwnF (compEnvC sc cl Ca W.env) a -> a = Ca \/ OwnF W.env a:=fun a q => q.imp_right fun ⟨y,hy⟩ => .inr ⟨y,c1 _ _ hy⟩
 have loop:∀ s3:Shared,s3.heap = h4 -> (sio s3) = (sio m1.s) -> 1 <= s3.toks -> codeAny W.b.M W.A (.compLoop (.ListComp elt [⟨.Name x px,it,ifs,0⟩] sc pos) 0 (.ref I) (.ref D) (compEnvC sc cl Ca W.env)) (compPost W.b.M W.A (EX W P.exc) use Q (.ref D) Ca) s3:=by
  rintro s3 rfl i3 t3
  have F4:FRL W.b W.env (hold W.ns fr) ⟨m1.σ,m1.g.hide D,s3⟩:=hide_fr Z1.F g14 D1
  have Fc:FRL W.b (compEnvC sc cl Ca W.env) (seenL sc (hold W.ns fr)) ⟨m1.σ,m1.g.hide D,s3⟩:=cenv_fr HS O F4 c1 c2 hn4 ⟨Z1.R.none_unow C1,fun q => q.elim (Z1.R.none_forb C1) fun q => dD q.symm⟩ (Z1.R.hb_none C1) (nE _ C1)
  have ZS:Stat W (compEnvC sc cl Ca W.env) m1 D I :=
   ⟨I1,D1,C1,dI,dC,dD,Z1.R.hb_none I1,Z1.R.hb_none D1,Z1.R.none_forb I1,fun q => (own _ q).elim dC (nE _ I1),nE _ I1,fun q => (own _ q).elim dD (nE _ D1),nE _ D1,nE _ C1⟩
  refine codeAny_turns (m:=⟨m1.σ,m1.g.hide D,s3⟩) (L:=hold W.ns fr) C.B.handled (kind_same (S:=⟨sc,S.mu⟩) relabel_kind nofun O.tgt) (fun v hv => by rw [seenL,O.tgt] at hv; cases hv.1) ZS (hold_inner O.tgt) (fun O => He _ O relabel_kind) (fun O => Ht _ O relabel_kind) ?_ (Nat.zero_le _) q2
   ⟨⟨hide_rel Z1.R i3 g14 D1 (hDl.elim fun n e => ⟨_,e⟩),StepH.grown g14,Fc,F4,⟨#[],hDl,rfl⟩,t3⟩,it1.mono (fun o q => g24 _ _ q) (hide_mono g24 D2) (Nat.le_refl _) fun _ _ => rfl,Z1.R.none_unow I1⟩
  rintro vs m3 ⟨v,σ,q3,hK⟩ B3
  obtain ⟨ys,y1,y2⟩:=B3.acc
  obtain ⟨u,σ2,g2,qq,R2,ev2,T2,M2,f2⟩:=late_list (Q:=fun v σ => K v ⟨W.cx,P⟩ fr σ) q3 hK Z1.R B3.R B3.T D1 y1 y2
  refine hP u D Ca ⟨σ2,g2,m3.s⟩ qq ev2 (S1.trans T2) ⟨R2,Late.fr M2 f2 B3.F,B3.tk,Z1.S.trans T2.wide⟩ ⟨?_,f2 _ (B3.Fc.unow _ (.inl rfl)).1,Z1.R.hb_none C1,S1.new_none C1,nE _ C1⟩
  obtain ⟨f,hf,_⟩:=B3.Fc.ns
  exact ⟨f,hf⟩
 have tk3:1 <= tk + ([]:List (Str × Value)).length:=Nat.le_add_right_of_le htk
 refine codeAny_compStart_list (loop _ rfl rfl tk3) (iter_self (b:=W.b) (m:=⟨m1.σ,m1.g.hide D,_⟩) (it1.mono (fun o q => g24 _ _ q) (hide_mono g24 D2) (Nat.le_refl _) fun _ _ => rfl) (loop _ rfl rfl tk3))
end
noncomputable def ifE (b:Bool) (e:CE):CE:=bif b then e else .fail
noncomputable def constE:Const -> CE
 | .none => .const .none
 | .bool b => .const (.bool b)
 | .int i => .const (.int i)
 | .str s => ifE (PyData.strOk s) (.const (.str s))
 | _ => .fail
noncomputable def varE (o:Option Nat):CE:=match o with
 | some i => .var i
 | none => .fail
noncomputable def glE (o:Option GV):CE:=match o with
 | some (.const v) => .const v
 | _ => .fail
noncomputable def nameE (S:Sc) (ns:List Str) (x:Str):CE:=ifE (notDebug x) (match S.sc.names.lookup x with
 | some .globalImplicit => glE (tabGl.lookup x)
 | some .local => varE (slot x ns)
 | some .cell => varE (slot x ns)
 | some .free => varE (slot x ns)
 | _ => .fail)
noncomputable def mkBool (op:BoolOp):List CE -> CE
 | [] => .fail
 | e :: r => match r with
  | [] => e
  | _ :: _ => match op with
   | .And => .and e (mkBool op r)
   | .Or => .or e (mkBool op r)
section
variable {W:Wd} {S:Sc} {t:Sem Value}
theorem te_fail:TE W t .fail:=fun _ _ _ _ _ q => q.elim
theorem tb_fail {t:Sem Bool}:TB W t .fail:=fun _ _ _ _ _ q => q.elim
theorem te_if {b:Bool} {c:CE} (h:b = true -> TE W t c):TE W t (ifE b c):=by
 cases b with
 | true => exact h rfl
 | false => exact te_fail
theorem te_const {c:Const} {k:Nat} {p:Pos}:TE W (eval (.Constant c k p) W.env) (constE c):=by
 cases c with
 | none => exact fun P fr K m Z q => PySem.wpAny_Constant_none (ok_at (t:=m.s.toks) q Z.R rfl)
 | bool b => exact fun P fr K m Z q => PySem.wpAny_Constant_bool (ok_at (t:=m.s.toks) q Z.R rfl)
 | int i => exact fun P fr K m Z q => wpAny_Constant_int (ok_at q Z.R ⟨_⟩)
 | str x => exact te_if fun h P fr K m Z q => PySem.wpAny_Constant_str (ok_at q Z.R ⟨_,h⟩)
 | _ => exact te_fail
theorem te_name (C:CtxOk W) (HS:ScRel S W.env) {x:Str} {p:Pos}:TE W (eval (.Name x p) W.env) (nameE S W.ns x):=te_if fun hd => by
 have loc:W.env.kindOf x = some .local \/ W.env.kindOf x = some .cell \/ W.env.kindOf x = some .free -> TE W (eval (.Name x p) W.env) (varE (slot x W.ns)):=fun hk => by
  cases z:slot x W.ns with
  | none => exact te_fail
  | some i =>
   intro P fr K m Z q
   have q:vK (getF fr i) _ fr m.σ K:=q
   cases y:getF fr i with
   | none => rw [y] at q; exact q.elim
   | some v => rw [y] at q; exact load_local Z.F (hold_var z y) hk hd fun v' hv => ok_at (t:=m.s.toks) q Z.R hv
 cases hk:S.sc.names.lookup x with
 | none => exact te_fail
 | some kd =>
  cases kd with
  | globalImplicit =>
   show TE W _ (glE (tabGl.lookup x))
   cases z:tabGl.lookup x with
   | none => exact te_fail
   | some gv =>
    cases gv with
    | const v => exact fun P fr K m Z q => load_global C.T.gl Z.R.base Z.F.st z (kind_same HS nofun hk) hd fun v' hv => ok_at (t:=m.s.toks) q Z.R (gv_const Z.R hv)
    | _ => exact te_fail
  | «local» => exact loc (.inl (kind_same HS nofun hk))
  | cell => exact loc (.inr (.inl (kind_same HS nofun hk)))
  | free => exact loc (.inr (kind_free HS hk))
  | _ => exact te_fail
theorem te_bin {l r:Expr} {op:Operator} {p:Pos} {mk:Bool} {cl cr:CE} (Hl:TE W (eval l W.env) cl) (Hr:TE W (eval r W.env) cr):TE W (eval (.BinOp l op r p) W.env) (.bin mk op cl cr):=fun P fr K m Z q =>
 wpAny_BinOp (Hl.run Z q fun a va m1 q1 ea S1 Z1 => Hr.run Z1 q1 fun c vc m2 q2 ec S2 Z2 => by
  obtain ⟨v,σ,e,q3⟩:=q2
  exact ok_from (S1.trans S2) (sound_bin Z2.R (Step.vr S2 Z1.R ea) ec e q3))
theorem tK_run {b:Hb} {A:Around} {E:Value -> Shared -> Prop} {m:Ms} {v:V} {v':Value} {k:Bool -> Prop} {Q:Bool -> Shared -> Prop} (q:tK v k) (e:VM m v v') (h:∀ c,v' = .bool c -> k c -> Q c m.s):wpAny b.M A (truthy v') Q E m.s:=by
 cases v with
 | bool c => cases e; exact wpAny_truthy_bool (h c rfl q)
 | _ => exact q.elim
theorem ok_bool {b:Hb} {Q:V -> St -> Prop} {m m1:Ms} {c:Bool} {t:Nat} (S:Step No m m1) (R:Rel b m1) (q:Q (.bool c) m1.σ):OK b Q m (.bool c) { m1.s with toks:=t }:=OK.start S (ok_at q R rfl)
theorem te_not {e:Expr} {p:Pos} {c:CE} (H:TE W (eval e W.env) c):TE W (eval (.UnaryOp .Not e p) W.env) (.not c):=fun P fr K m Z q =>
 UnaryOp_ (H.run Z q fun a va m1 q1 ea S1 Z1 => not_of (tK_run q1 ea fun c _ q => ok_bool (t:=m1.s.toks) S1 Z1.R q))
theorem te_neg {e:Expr} {p:Pos} {c:CE} (H:TE W (eval e W.env) c):TE W (eval (.UnaryOp .USub e p) W.env) (.neg c):=fun P fr K m Z q =>
 UnaryOp_ (H.run Z q fun a va m1 q1 ea S1 Z1 => by
  cases a with
  | int i => obtain ⟨t⟩:=ea; exact PyProof.Rows.neg_int (OK.start S1 (ok_at (v:=.int (-i)) q1 Z1.R ⟨_⟩))
  | _ => exact q1.elim)
theorem Br.run {c:Bool} {A B:Prop} (q:Br c A B):(c = true /\ A) \/ (c = false /\ B):=by
 cases q with
 | t e h => exact .inl ⟨e,h⟩
 | f e h => exact .inr ⟨e,h⟩
theorem ok_more {t:Sem Value} {c:CE} {P:PX} {fr:Fr} {K:KE} {m m1:Ms} (T:TE W t c) (S:Step No m m1) (Z:At W fr m1) (q:ev c ⟨W.cx,P⟩ fr m1.σ K):wpAny W.b.M W.A t (OK W.b (fun v σ => K v ⟨W.cx,P⟩ fr σ) m) (EX W P.exc) m1.s:=ok_from S (T P fr K m1 Z q)
theorem te_ife {t b o:Expr} {p:Pos} {ct cb co:CE} (Ht:TB W (isTrue t W.env (eval t W.env)) ct) (Hb:TE W (eval b W.env) cb) (Ho:TE W (eval o W.env) co):TE W (eval (.IfExp t b o p) W.env) (.ite ct cb co):=fun P fr K m Z q =>
 IfExp_ (Ht.run Z (K:=fun c e fr σ => Br c (ev cb e fr σ K) (ev co e fr σ K)) q fun c m1 q1 S1 Z1 => by
  rcases q1.run with ⟨rfl,q2⟩ | ⟨rfl,q2⟩
  ·exact ok_more Hb S1 Z1 q2
  ·exact ok_more Ho S1 Z1 q2)
theorem bool_step {op:BoolOp} {p:Pos} {e:Expr} {r:List (Sem Value)} {x:Sem Value} {ce:CE} {P:PX} {fr:Fr} {K:KE} {m:Ms} {kr:EE -> Fr -> St -> Prop} (H:TE W (eval e W.env) ce) (Z:At W fr m)
  (q:ev ce ⟨W.cx,P⟩ fr m.σ fun v e fr σ => tK v fun c => match op with | .And => Br c (kr e fr σ) (K (.bool false) e fr σ) | .Or => Br c (K (.bool true) e fr σ) (kr e fr σ))
  (h:∀ m1,Step No m m1 -> At W fr m1 -> kr ⟨W.cx,P⟩ fr m1.σ -> wpAny W.b.M W.A (boolOp p op (x :: r)) (OK W.b (fun v σ => K v ⟨W.cx,P⟩ fr σ) m) (EX W P.exc) m1.s) :
  wpAny W.b.M W.A (boolOp p op (eval e W.env :: x :: r)) (OK W.b (fun v σ => K v ⟨W.cx,P⟩ fr σ) m) (EX W P.exc) m.s:=by
 show wpAny W.b.M W.A (do
   let v <- eval e W.env
   standAt p
   let t <- holding [v] (truthy v)
   match op,t with
   | .And,false | .Or,true => pure v
   | _,_ => boolOp p op (x :: r)) _ _ m.s
 refine wpAny_bind (H.run Z q fun a va m1 q1 ea S1 Z1 => wpAny_bind (wpAny_standAt (wpAny_bind (wpAny_holding (tK_run q1 ea fun c hc qc => ?_)))))
 subst hc
 cases op <;> rcases Br.run qc with ⟨rfl,q⟩ | ⟨rfl,q⟩
 ·exact h m1 S1 Z1 q
 ·exact wpAny_pure (ok_bool (t:=m1.s.toks) S1 Z1.R q)
 ·exact wpAny_pure (ok_bool (t:=m1.s.toks) S1 Z1.R q)
 ·exact h m1 S1 Z1 q
theorem te_bool {op:BoolOp} {p:Pos} {g:Expr -> CE} (H:∀ e,TE W (eval e W.env) (g e)) {es:List Expr}:TE W (boolOp p op (evalEach es W.env)) (mkBool op (es.map g)):=by
 induction es with
 | nil => exact te_fail
 | cons e r ih =>
  cases r with
  | nil => exact H e
  | cons e2 r =>
   intro P fr K m Z q
   refine bool_step (kr:=fun e fr σ => ev (mkBool op ((e2 :: r).map g)) e fr σ K) (H e) Z ?_ fun m1 S1 Z1 q1 => ok_more ih S1 Z1 q1
   cases op <;> exact q
theorem compare_plain {op:CmpOp} {e:Expr} (h:starless e = true):behindInMarks op e = false:=by
 unfold starless at h
 generalize view e = v at h
 cases v <;> first | rfl | cases h
theorem marked_plain {ops:List CmpOp}:∀ {cs:List Expr} {env:Env},noStar cs = true -> markedEach ops cs (evalEach cs env) = evalEach cs env:=by
 induction ops with
 | nil =>
  intro cs env h
  cases cs with
  | nil => rfl
  | cons e r => unfold markedEach; rfl
 | cons op ops ih =>
  intro cs env h
  cases cs with
  | nil => cases ops <;> rfl
  | cons e r =>
   obtain ⟨h1,h2⟩:=noStar_cons h
   cases ops with
   | cons o2 ops =>
    show eval e env :: markedEach (o2 :: ops) r (evalEach r env) = _
    rw [ih h2]; rfl
   | nil =>
    cases r with
    | nil => show [markedBehindIn op e (eval e env)] = [eval e env]; rw [markedBehindIn_of_false (compare_plain h1)]
    | cons e2 es => show eval e env :: markedEach [] (e2 :: es) (evalEach (e2 :: es) env) = _; rw [ih h2]; rfl
section
variable {P:PX} {fr:Fr} {K:KE} {m:Ms} {p:Pos} {g:Expr -> CE}
theorem chain_op {op:CmpOp} {a v:V} {va vb:Value} {c:Bool} {E:Value -> Shared -> Prop} (C:CtxOk W) (Z:At W fr m) (ea:VM m a va) (eb:VM m v vb) (q:cmpQ m.σ op a v = some c) {X:Value -> Shared -> Prop} (h:∀ t,At W fr ⟨m.σ,m.g,{ m.s with toks:=t }⟩ -> X (.bool c) { m.s with toks:=t }):wpAny W.b.M W.A (compareOp op va vb) X E m.s :=
 wpAny_with_toks Z.t (wpAny_mono (sound_cmp (P:=fun v s => ∃ t,v = .bool c /\ s = { m.s with toks:=t }) (E:=E) Z.R C.sys ea eb q C.room fun t => ⟨t,rfl,rfl⟩) (fun v s z tk => by obtain ⟨t,rfl,rfl⟩:=z; exact h t (Z.toks tk)) fun _ _ z _ => z)
end
theorem te_chain (C:CtxOk W) {p:Pos} {g:Expr -> CE} (H:∀ e,TE W (eval e W.env) (g e)) {P:PX} {fr:Fr} {K:KE} {ops:List CmpOp}:∀ {cs:List Expr} {a:V} {va:Value} {m:Ms},ops.length = cs.length -> ops ≠ [] -> At W fr m -> VM m a va -> evC (mkEs (cs.map g)) a ops ⟨W.cx,P⟩ fr m.σ K ->
  wpAny W.b.M W.A (compareChain p va ops (evalEach cs W.env)) (OK W.b (fun v σ => K v ⟨W.cx,P⟩ fr σ) m) (EX W P.exc) m.s:=by
 induction ops with
 | nil => exact fun _ h => absurd rfl h
 | cons op ops ih =>
  intro cs a va m hl _ Z ea q
  cases cs with
  | nil => cases hl
  | cons r rs =>
   cases ops with
   | nil =>
    cases rs with
    | cons _ _ => cases hl
    | nil =>
     show wpAny W.b.M W.A (do let rv <- holding [va] (eval r W.env); standAt p; operate [va,rv] (compareOp op va rv)) _ _ m.s
     refine wpAny_bind (wpAny_holding ((H r).run Z q fun c vc m1 q1 ec S1 Z1 => ?_))
     obtain ⟨x,e,q2⟩:=q1
     exact wpAny_bind (wpAny_standAt (wpAny_operate' (chain_op C Z1 (Step.vr S1 Z.R ea) ec e fun t Z2 => ok_bool S1 Z1.R q2)))
   | cons o2 ops =>
    show wpAny W.b.M W.A (do
     let rv <- holding [va] (eval r W.env)
     standAt p
     let c <- holding [va,rv] (compareOp op va rv)
     release [va,rv] [c]
     if <- holding [c,rv] (truthy c) then compareChain p rv (o2 :: ops) (evalEach rs W.env) else pure c) _ _ m.s
    refine wpAny_bind (wpAny_holding ((H r).run Z q fun c vc m1 q1 ec S1 Z1 => ?_))
    obtain ⟨x,e,q2⟩:=q1
    refine wpAny_bind (wpAny_standAt (wpAny_bind (wpAny_holding (chain_op C Z1 (Step.vr S1 Z.R ea) ec e fun t Z2 => wpAny_bind (wpAny_release' (wpAny_bind (wpAny_holding (wpAny_truthy_bool ?_))))))))
    rcases Br.run q2 with ⟨rfl,q3⟩ | ⟨rfl,q3⟩
    ·exact ok_from (m₁:=⟨m1.σ,m1.g,{ m1.s with toks:=t }⟩) S1 (ih (Nat.succ.inj hl) nofun Z2 ec q3)
    ·exact wpAny_pure (ok_bool S1 Z1.R q3)
theorem tb_chain (C:CtxOk W) {p:Pos} {g:Expr -> CE} (H:∀ e,TE W (eval e W.env) (g e)) {P:PX} {fr:Fr} {K:Bool -> EE -> Fr -> St -> Prop} {ops:List CmpOp}:∀ {cs:List Expr} {a:V} {va:Value} {m:Ms},ops.length = cs.length -> ops ≠ [] -> At W fr m -> VM m a va -> evC (mkEs (cs.map g)) a ops ⟨W.cx,P⟩ fr m.σ (fun v e fr σ => tK v fun b => K b e fr σ) ->
  wpAny W.b.M W.A (testChain p va ops (evalEach cs W.env)) (BK W fr (fun b σ => K b ⟨W.cx,P⟩ fr σ) m) (EX W P.exc) m.s:=by
 induction ops with
 | nil => exact fun _ h => absurd rfl h
 | cons op ops ih =>
  intro cs a va m hl _ Z ea q
  cases cs with
  | nil => cases hl
  | cons r rs =>
   cases ops with
   | nil =>
    cases rs with
    | cons _ _ => cases hl
    | nil =>
     show wpAny W.b.M W.A (do let rv <- holding [va] (eval r W.env); standAt p; let c <- operate [va,rv] (compareOp op va rv); holding [c] (truthy c)) _ _ m.s
     refine wpAny_bind (wpAny_holding ((H r).run Z q fun c vc m1 q1 ec S1 Z1 => ?_))
     obtain ⟨x,e,q2⟩:=q1
     exact wpAny_bind (wpAny_standAt (wpAny_bind (wpAny_operate' (chain_op C Z1 (Step.vr S1 Z.R ea) ec e fun t Z2 => wpAny_holding (wpAny_truthy_bool ⟨m1.σ,m1.g,q2,S1,Z2⟩)))))
   | cons o2 ops =>
    show wpAny W.b.M W.A (do
     let rv <- holding [va] (eval r W.env)
     standAt p
     let c <- holding [va,rv] (compareOp op va rv)
     release [va,rv] [c]
     if <- holding [c,rv] (truthy c) then testChain p rv (o2 :: ops) (evalEach rs W.env) else pure false) _ _ m.s
    refine wpAny_bind (wpAny_holding ((H r).run Z q fun c vc m1 q1 ec S1 Z1 => ?_))
    obtain ⟨x,e,q2⟩:=q1
    refine wpAny_bind (wpAny_standAt (wpAny_bind (wpAny_holding (chain_op C Z1 (Step.vr S1 Z.R ea) ec e fun t Z2 => wpAny_bind (wpAny_release' (wpAny_bind (wpAny_holding (wpAny_truthy_bool ?_))))))))
    rcases Br.run q2 with ⟨rfl,q3⟩ | ⟨rfl,q3⟩
    ·exact wpAny_mono (ih (Nat.succ.inj hl) nofun Z2 ec q3) (fun _ _ z => by obtain ⟨σ,g,q,S,Z'⟩:=z; exact ⟨σ,g,q,S1.trans S,Z'⟩) fun _ _ z => z
    ·exact wpAny_pure ⟨m1.σ,m1.g,q3,S1,Z2⟩
theorem te_cmp (C:CtxOk W) {l:Expr} {ops:List CmpOp} {cs:List Expr} {p:Pos} {g:Expr -> CE} (H:∀ e,TE W (eval e W.env) (g e)) (hs:noStar cs = true) (hl:ops.length = cs.length) (h0:ops ≠ []):TE W (eval (.Compare l ops cs p) W.env) (.cmp (g l) ops (mkEs (cs.map g))):=fun P fr K m Z q => by
 rw [arm_eval_Compare,marked_plain hs]
 exact wpAny_bind ((H l).run Z q fun a va m1 q1 ea S1 Z1 => ok_from S1 (te_chain C H hl h0 Z1 ea q1))
theorem tb_cmp (C:CtxOk W) {l:Expr} {ops:List CmpOp} {cs:List Expr} {p:Pos} {g:Expr -> CE} (H:∀ e,TE W (eval e W.env) (g e)) (hs:noStar cs = true) (hl:ops.length = cs.length) (h0:ops ≠ []):TB W (isTrue (.Compare l ops cs p) W.env (eval (.Compare l ops cs p) W.env)) (.cmp (g l) ops (mkEs (cs.map g))):=fun P fr K m Z q => by
 rw [arm_isTrue_Compare,marked_plain hs]
 exact wpAny_bind ((H l).run Z q fun a va m1 q1 ea S1 Z1 => wpAny_mono (tb_chain C H hl h0 Z1 ea q1) (fun _ _ z => by obtain ⟨σ,g,q,S,Z'⟩:=z; exact ⟨σ,g,q,S1.trans S,Z'⟩) fun _ _ z => z)
theorem tb_plain {e:Expr} {c:CE} (H:TE W (eval e W.env) c) (he:isTrue e W.env (eval e W.env) = (do let v <- eval e W.env; standAt e.pos; holding [v] (truthy v))):TB W (isTrue e W.env (eval e W.env)) c:=fun P fr K m Z q =>
 wpAny_isTrue_value (H.run Z q fun a va m1 q1 ea S1 Z1 => tK_run q1 ea fun c _ qc => ⟨m1.σ,m1.g,qc,S1,Z1⟩) he
theorem tb_not {e:Expr} {p:Pos} {c:CE} {t:Sem Value} (H:TB W (isTrue e W.env (eval e W.env)) c):TB W (isTrue (.UnaryOp .Not e p) W.env t) (.not c):=fun P fr K m Z q =>
 wpAny_isTrue_Not (H.run Z (K:=fun b e fr σ => K (!b) e fr σ) q fun c m1 q1 S1 Z1 => ⟨m1.σ,m1.g,q1,S1,Z1⟩)
theorem bk_more {t:Sem Bool} {c:CE} {P:PX} {fr:Fr} {K:Bool -> EE -> Fr -> St -> Prop} {m m1:Ms} (T:TB W t c) (S:Step No m m1) (Z:At W fr m1) (q:ev c ⟨W.cx,P⟩ fr m1.σ (fun v e fr σ => tK v fun b => K b e fr σ)):wpAny W.b.M W.A t (BK W fr (fun b σ => K b ⟨W.cx,P⟩ fr σ) m) (EX W P.exc) m1.s :=
 T.run Z q fun c m2 q2 S2 Z2 => ⟨m2.σ,m2.g,q2,S.trans S2,Z2⟩
theorem tb_ife {t b o:Expr} {p:Pos} {ct cb co:CE} {x:Sem Value} (Ht:TB W (isTrue t W.env (eval t W.env)) ct) (Hb:TB W (isTrue b W.env (eval b W.env)) cb) (Ho:TB W (isTrue o W.env (eval o W.env)) co):TB W (isTrue (.IfExp t b o p) W.env x) (.ite ct cb co):=fun P fr K m Z q =>
 isTrue_IfExp (Ht.run Z (K:=fun c e fr σ => Br c (ev cb e fr σ fun v e fr σ => tK v fun b => K b e fr σ) (ev co e fr σ fun v e fr σ => tK v fun b => K b e fr σ)) q fun c m1 q1 S1 Z1 => by
  rcases q1.run with ⟨rfl,q2⟩ | ⟨rfl,q2⟩
  ·exact bk_more Hb S1 Z1 q2
  ·exact bk_more Ho S1 Z1 q2)
noncomputable def mkAll (op:BoolOp):List CE -> CE
 | [] => .const (.bool (op == .And))
 | e :: r => match op with
  | .And => .and e (mkAll op r)
  | .Or => .or e (mkAll op r)
theorem tb_all {op:BoolOp} {g:Expr -> CE} (H:∀ e,TB W (isTrue e W.env (eval e W.env)) (g e)) {es:List Expr}:TB W (allTrue op es W.env) (mkAll op (es.map g)):=by
 induction es with
 | nil => intro P fr K m Z q; rw [arm_allTrue_nil]; exact wpAny_pure ⟨m.σ,m.g,q,StepH.refl,Z⟩
 | cons e r ih =>
  intro P fr K m Z q
  rw [arm_allTrue_cons]
  cases op with
  | And =>
   refine wpAny_bind ((H e).run Z (K:=fun c e fr σ => Br c (ev (mkAll .And (r.map g)) e fr σ fun v e fr σ => tK v fun b => K b e fr σ) (K false e fr σ)) q fun c m1 q1 S1 Z1 => ?_)
   rcases q1.run with ⟨rfl,q2⟩ | ⟨rfl,q2⟩
   ·exact bk_more ih S1 Z1 q2
   ·exact wpAny_pure ⟨m1.σ,m1.g,q2,S1,Z1⟩
  | Or =>
   refine wpAny_bind ((H e).run Z (K:=fun c e fr σ => Br c (K true e fr σ) (ev (mkAll .Or (r.map g)) e fr σ fun v e fr σ => tK v fun b => K b e fr σ)) q fun c m1 q1 S1 Z1 => ?_)
   rcases q1.run with ⟨rfl,q2⟩ | ⟨rfl,q2⟩
   ·exact wpAny_pure ⟨m1.σ,m1.g,q2,S1,Z1⟩
   ·exact bk_more ih S1 Z1 q2
end
noncomputable def plainV {e:Expr}:View e -> Bool
 | .callN _ _ args kws _ => !(args.isEmpty && kws.isEmpty)
 | .other _ => false
 | _ => true
noncomputable def plainBase (e:Expr):Bool:=plainV (view e)
section
variable {W:Wd} {S:Sc} {g:Expr -> CE}
theorem base_eq {o:Expr} (h:plainBase o = true) (name:Str) (env:Env) (w:Sem Value):attributeBase o name env w = w:=by
 unfold plainBase at h
 generalize view o = v at h
 cases v with
 | callN f q args kws p =>
  cases args with
  | cons _ _ => rfl
  | nil =>
   cases kws with
   | cons _ _ => rfl
   | nil => cases h
 | other => cases h
 | _ => rfl
theorem te_attr (C:CtxOk W) {e:Expr} {x:Str} {p:Pos} {cs:List Addr} {c:CE} (hb:plainBase e = true) (ha:tabAttr.lookup x = some cs) (H:TE W (eval e W.env) c):TE W (eval (.Attribute e x p) W.env) (.attr c x cs):=fun P fr K m Z q => by
 rw [arm_eval_Attribute,base_eq hb]
 refine wpAny_bind (H.run Z q fun a va m1 q1 ea S1 Z1 => wpAny_bind (wpAny_standAt (wpAny_bind (wpAny_holding ?_))))
 obtain ⟨v,e1,q2⟩:=q1
 exact wpAny_mono (sound_attr (Q:=fun v σ => K v ⟨W.cx,P⟩ fr σ) C.T.inK (C.T.attr x cs ha) Z1.R ea e1 q2) (fun v s z => wpAny_bind (wpAny_letTemporaryGo (wpAny_pure (z.start S1)))) fun _ _ z => z
theorem bleK_inv {n k:Nat} {p:Prop} (q:bleK n k p):n <= k /\ p:=by
 unfold bleK at q
 cases h:Nat.ble n k with
 | true => rw [h] at q; exact ⟨Nat.le_of_ble_eq_true h,q⟩
 | false => rw [h] at q; exact q.elim
theorem mkK_ok {mk:Bool} {l:List V} {e:EE} {fr:Fr} {σ:St} {K:KE} (hl:l.length <= big) (q:mkK mk l e fr σ K):∃ v σ',okL mk l σ = .ok v σ' /\ K v e fr σ':=by
 unfold okL
 rw [if_pos hl]
 cases mk
 ·exact ⟨_,_,rfl,q⟩
 ·exact ⟨_,_,rfl,q⟩
theorem te_list {es:List Expr} {p:Pos} {mk:Bool} (H:∀ e,TE W (eval e W.env) (g e)) (hS:∀ e,starless e = false -> g e = .fail):TE W (eval (.List es p) W.env) (.list mk (mkEs (es.map g))):=fun P fr K m Z q =>
 PySem.wpAny_List (sound_es H hS Z q fun vs vals m1 q1 e1 S1 Z1 => by
  obtain ⟨hl,q2⟩:=bleK_inv q1
  obtain ⟨v,σ,e2,q3⟩:=mkK_ok hl q2
  exact ⟨by rw [e1.length]; exact Nat.le_trans hl big_le,OK.start S1 (ok_newL (t:=m1.s.toks) (Q:=fun v σ => K v ⟨W.cx,P⟩ fr σ) e2 q3 Z1.R e1)⟩)
theorem te_tup {es:List Expr} {k:Nat} {p:Pos} (H:∀ e,TE W (eval e W.env) (g e)) (hS:∀ e,starless e = false -> g e = .fail):TE W (eval (.Tuple es k p) W.env) (.tup (mkEs (es.map g))):=fun P fr K m Z q =>
 PySem.wpAny_Tuple (sound_es H hS Z q fun vs vals m1 q1 e1 S1 Z1 => by
  obtain ⟨hl,q2⟩:=bleK_inv q1
  exact ⟨by rw [e1.length]; exact Nat.le_trans hl big_le,OK.start S1 (ok_push (t:=m1.s.toks) (o:={ cls:=.type "tuple",data:=.seq vals.toArray }) (Q:=fun v σ => K v ⟨W.cx,P⟩ fr σ) q2 Z1.R ⟨_,_,⟨0,Heap.get?_push_size _ rfl⟩,VMs.grown (σ:=m1.σ) (s':={ m1.s with heap:=m1.s.heap.push _ }) grown_push e1⟩)⟩)
theorem te_sub {e i:Expr} {p:Pos} {ce ci:CE} (hs:∀ o j,subscripted i false o j = operate [o,j] (getItem o j)) (H:TE W (eval e W.env) ce) (Hi:TE W (eval i W.env) ci):TE W (eval (.Subscript e i p) W.env) (.sub ce ci):=fun P fr K m Z q =>
 Subscript_ (H.run Z q fun a va m1 q1 ea S1 Z1 => Hi.run Z1 q1 fun c vc m2 q2 ec S2 Z2 => by
  obtain ⟨v,e1,q3⟩:=q2
  exact ok_from (S1.trans S2) (sound_sub (Q:=fun v σ => K v ⟨W.cx,P⟩ fr σ) Z2.R (Step.vr S2 Z1.R ea) ec e1 q3 hs))
noncomputable def optE (g:Expr -> CE):Option Expr -> CE
 | none => .const .none
 | some e => g e
theorem te_opt (H:∀ e,TE W (eval e W.env) (g e)) (x:Option Expr):TE W (evalPart x W.env) (optE g x):=by
 cases x with
 | none => intro P fr K m Z q; rw [evalPart_none]; exact wpAny_pure (ok_at (t:=m.s.toks) q Z.R rfl)
 | some e => rw [evalPart_some]; exact H e
theorem te_slice {e:Expr} {lo hi st:Option Expr} {q' p:Pos} {mk:Bool} (H:∀ e,TE W (eval e W.env) (g e)):TE W (eval (.Subscript e (.Slice lo hi st q') p) W.env) (.slice mk (g e) (optE g lo) (optE g hi) (optE g st)):=fun P fr K m Z q =>
 Subscript_ ((H e).run Z q fun a va m1 q1 ea S1 Z1 => wpAny_Slice ((te_opt H lo).run Z1 q1 fun l vl m2 q2 el S2 Z2 => (te_opt H hi).run Z2 q2 fun u vu m3 q3 eu S3 Z3 => (te_opt H st).run Z3 q3 fun x vx m4 q4 es S4 Z4 => by
  obtain ⟨v,σ,e1,q5⟩:=q4
  have gp:Grown m4.s.heap (m4.s.heap.push { cls:=.type "slice",data:=.fields #[vl,vu,vx] }):=grown_push
  refine ok_from (m₁:=⟨m4.σ,m4.g,{ m4.s with heap:=m4.s.heap.push { cls:=.type "slice",data:=.fields #[vl,vu,vx] } }⟩) ((((S1.trans S2).trans S3).trans S4).trans (.grown gp)) (sound_slice (Q:=fun v σ => K v ⟨W.cx,P⟩ fr σ) (Z4.R.grown rfl gp)
   (VM.grown gp (Step.vr S4 Z3.R (Step.vr S3 Z2.R (Step.vr S2 Z1.R ea)))) (VM.grown gp (Step.vr S4 Z3.R (Step.vr S3 Z2.R el))) (VM.grown gp (Step.vr S4 Z3.R eu)) (VM.grown gp es) (Heap.get?_push_size _ rfl) e1 q5 ?_)
  intro o j
  cases st with
  | none => exact ⟨_,rfl⟩
  | some _ => exact ⟨_,rfl⟩))
noncomputable def callE (mk:Bool) (gv:GV) (args:CEs) (kn:List Str) (kws:CEs):CE:=match gv with
 | .fn a => .fn a args kn kws
 | .cls c => (match tabInit.lookup c with
  | some f => ifE kn.isEmpty (.cls c f args)
  | none => .fail)
 | .const _ => .fail
 | .bf b => ifE kn.isEmpty (.bf mk b args)
noncomputable abbrev kwNames (kws:List Keyword):List Str:=kws.filterMap (·.arg)
theorem kw_none {kws:List Keyword} (hk:namedKw kws = true) (h:(kwNames kws).isEmpty = true):kws = []:=by
 cases kws with
 | nil => rfl
 | cons k r =>
  obtain ⟨x,e,p⟩:=k
  cases x with
  | none => cases (named_cons hk).1
  | some x => cases h
theorem te_callN (C:CtxOk W) (HS:ScRel S W.env) (H:∀ e,TE W (eval e W.env) (g e)) (hS:∀ e,starless e = false -> g e = .fail) {x:Str} {q' p:Pos} {args:List Expr} {kws:List Keyword} {mk:Bool} {gv:GV} (hd:notDebug x = true) (ha:noStar args = true) (hk:namedKw kws = true) (hx:S.sc.names.lookup x = some .globalImplicit) (hg:tabGl.lookup x = some gv) :
  TE W (eval (.Call (.Name x q') args kws p) W.env) (callE mk gv (mkEs (args.map g)) (kwNames kws) (mkEs (kws.map fun k => g k.value))):=by
 have open_:∀ {P:PX} {fr:Fr} {m:Ms} {Q:Value -> Shared -> Prop} {E:Value -> Shared -> Prop},At W fr m -> (∀ fv,GVIs W.b.heap gv fv -> wpAny W.b.M W.A (callWith p fv [] (backTo p (starEach args W.env)) (backToKw p (keywordEach kws W.env))) Q E m.s) -> wpAny W.b.M W.A (eval (.Call (.Name x q') args kws p) W.env) Q E m.s:=fun {P fr m Q E} Z h =>
  wpAny_bind (load_global C.T.gl Z.R.base Z.F.st hg (kind_same HS nofun hx) hd h)
 cases gv with
 | const v => exact te_fail
 | fn a =>
  intro P fr K m Z q
  refine open_ (P:=P) Z fun fv hv => ?_
  cases hv
  exact sound_args H hS ha hk (keeps_ref C.T.inK (C.T.keepF _ _ hg)) Z (K:=fun vs ks e fr σ => Ca (e.cx.call a vs ((kwNames kws).zip ks) σ) e fr K) q fun vs ks vals kvals m1 q1 e1 e2 S1 Z1 => by
   obtain ⟨q2⟩:=q1
   exact ok_from S1 (own_end Z1 (call_own C.call q2 C.B.aok Z1.R e1 e2 Z1.t))
 | cls c =>
  show TE W _ (match tabInit.lookup c with | some f => ifE _ (.cls c f _) | none => .fail)
  cases hi:tabInit.lookup c with
  | none => exact te_fail
  | some f =>
   refine te_if fun hn => ?_
   have h0:=kw_none hk hn
   subst h0
   intro P fr K m Z q
   refine open_ (P:=P) Z fun fv hv => ?_
   cases hv
   exact sound_args H hS ha hk (keeps_ref C.T.inK (C.T.keepC _ _ hg)) Z (K:=fun vs ks e fr σ => Ca (clsF e.cx c f vs σ) e fr K) q fun vs ks vals kvals m1 q1 e1 e2 S1 Z1 => by
    obtain ⟨q2⟩:=q1
    cases e2
    exact ok_from S1 (sound_cls C (C.T.init c f hi) q2 Z1.R e1 Z1.t)
 | bf b =>
  refine te_if fun hn => ?_
  have h0:=kw_none hk hn
  subst h0
  intro P fr K m Z q
  refine open_ (P:=P) Z fun fv hv => ?_
  cases hv
  exact sound_args H hS ha hk (keeps_pure (by cases b <;> rfl)) Z (K:=fun vs ks e fr σ => El e fr (bfF mk b vs σ) K) q fun vs ks vals kvals m1 q1 e1 e2 S1 Z1 => by
   obtain ⟨v,σ,e3,q2⟩:=q1
   cases e2
   exact ok_from S1 (sound_bf C.B.handled C.sys Z1.R e1 e3 q2)
theorem form_true {args:List Expr} {kws:List Keyword} {p:Pos} {env:Env} (ha:noStar args = true) (hk:namedKw kws = true) (hl:args.length + kws.length < 29):methodCallForm (args.length + kws.length) (backTo p (starEach args env)) (backToKw p (keywordEach kws env)) = true:=by
 unfold methodCallForm
 have h1:(backTo p (starEach args env)).all (fun x => !x.1) = true:=by
  have:=args_plain (env:=env) (pos:=p) ha
  rw [List.any_eq_false] at this
  exact List.all_eq_true.mpr fun x hx => by simpa using this x hx
 rw [h1,kws_all hk]
 have h3:args.length + kws.length + (if (backToKw p (keywordEach kws env)).isEmpty = true then 0 else 1) < 30:=by split <;> lia
 simpa using h3
theorem meth_open {M:Model} {A:Around} {E:Value -> Shared -> Prop} {s:Shared} {env:Env} {o:Expr} {name:Str} {ap p:Pos} {args:List Expr} {kws:List Keyword} {P:Value -> Shared -> Prop} (hb:plainBase o = true) (hp:ap.endLine = p.line) (hl:args.length + kws.length < 29) (ha:noStar args = true) (hk:namedKw kws = true)
  (h:wpAny M A (eval o env) (fun ov s₁ => ∀ pl,wpAny M A (getMethod ov name pl) (fun fx s₂ => wpAny M A (callWith p fx.1 fx.2 (backTo p (starEach args env)) (backToKw p (keywordEach kws env))) P E s₂) E s₁) E s) :
  wpAny M A (eval (.Call (.Attribute o name ap) args kws p) env) P E s:=by
 rw [arm_eval_Call,base_eq hb]
 refine wpAny_bind (wpAny_mono h (fun ov s₁ h₁ => wpAny_bind (wpAny_standAt ?_)) fun _ _ z => z)
 unfold methodCall
 rw [form_true ha hk hl]
 refine wpAny_bind (wpAny_holding (wpAny_mono (h₁ _) (fun fx s₂ h₂ => ?_) fun _ _ z => z))
 have:methodCallPos true o env ap p = pure p:=if_pos (by rw [hp]; simp)
 rw [this]
 exact wpAny_bind (wpAny_pure h₂)
theorem te_callA (C:CtxOk W) (H:∀ e,TE W (eval e W.env) (g e)) (hS:∀ e,starless e = false -> g e = .fail) {o:Expr} {x:Str} {ap p:Pos} {args:List Expr} {kws:List Keyword} {mk:Bool} {bo:Option BM} {ms:List (Addr × Addr)} (hb:plainBase o = true) (hp:ap.endLine = p.line) (hl:args.length + kws.length < 29) (ha:noStar args = true) (hk:namedKw kws = true)
  (hm:∀ c f,ms.lookup c = some f -> MethOk W.K c x f) (ho:∀ f,bo = some f -> x = f.nm):TE W (eval (.Call (.Attribute o x ap) args kws p) W.env) (.meth mk (g o) x ms bo (mkEs (args.map g)) (kwNames kws) (mkEs (kws.map fun k => g k.value))):=fun P fr K m Z q =>
 meth_open hb hp hl ha hk ((H o).run Z q fun a va m1 q1 ea S1 Z1 pl => by
  obtain ⟨r,e1,q2⟩:=q1
  refine sound_get C.T.inK hm ho Z1.R ea e1 fun fv hs => ?_
  have hkp:Keeps W.b fv:=by
   cases hs with
   | fn f k => exact keeps_ref C.T.inK k
   | pk f k => exact keeps_ref C.T.inK k
   | bm f e => exact keeps_pure rfl
  exact sound_args H hS ha hk hkp Z1 (K:=fun vs ks e fr σ => methP mk r bo a vs ((kwNames kws).zip ks) e fr σ K) q2 fun vs ks vals kvals m2 q3 e2 e3 S2 Z2 => ok_from (S1.trans S2) (sound_meth C Z2 q3 hs (Step.vr S2 Z1.R ea) e2 e3))
theorem strOk_glued {x y z:Str} (hx:PyData.strOk x = true) (hz:PyData.strOk z = true):PyData.strOk (Txt.replace x y z) = true:=by
 unfold Txt.replace
 split
 ·exact hx
 ·rw [StrLaws.glued_eq_join]
  exact strOk_join hz (strOk_parts hx _ _)
set_option maxRecDepth 8000 in
theorem te_repl {o:Expr} {ap p:Pos} {y z:Str} {k1 k2:Nat} {p1 p2:Pos} {c:CE} (hb:plainBase o = true) (hp:ap.endLine = p.line) (hz:z.length = 1) (hn:y ≠ z) (hzo:PyData.strOk z = true) (H:TE W (eval o W.env) c) :
  TE W (eval (.Call (.Attribute o "replace" ap) [.Constant (.str y) k1 p1,.Constant (.str z) k2 p2] [] p) W.env) (.repl c y z):=fun P fr K m Z q =>
 meth_open hb hp (show 2 + 0 < 29 by decide) rfl rfl (H.run Z q fun a va m1 q1 ea S1 Z1 pl => by
  obtain ⟨v,σ,e1,q2⟩:=q1
  refine oO_str e1 ea fun x t e okx e1 => ?_
  subst e
  obtain ⟨hx,rfl,rfl⟩:=okI_inv e1
  refine GM.replace (callWith_of (P:=fun _ => True) rfl (fun h _ => ⟨.machine,.inr (.inl rfl),Looks.of_pure rfl⟩) (evalArgs_both rfl rfl (wpAny_items_cons (PySem.wpAny_Constant_str (wpAny_items_cons (PySem.wpAny_Constant_str (wpAny_items_nil (kwAll_nil ⟨trivial,?_⟩))))))))
  have t1:=Z1.t
  have hbb:big = 1000000:=rfl
  exact SC.replace (by show m1.s.toks ≠ 0; lia) (by show m1.s.toks + 1 ≠ 0; lia) (by show m1.s.toks ≠ m1.s.toks + 1; lia) (beq_eq_false_iff_ne.mpr hn) (by rw [hz]; lia) fun t' tk => OK.start S1 (ok_at (t:=tk) q2 Z1.R ⟨_,strOk_glued okx hzo⟩))
end
noncomputable def keyOf (k:Option Expr):Option Str:=k.bind strOf
noncomputable abbrev keysOf (ks:List (Option Expr)):List Str:=ks.filterMap keyOf
noncomputable def keysNd:List Str -> Bool
 | [] => true
 | x :: r => !r.contains x && keysNd r
theorem keysNd_nodup {l:List Str}:keysNd l = true -> l.Nodup:=by
 induction l with
 | nil => exact fun _ => List.nodup_nil
 | cons x r ih =>
  intro h
  have h:=Bool.and_eq_true_iff.mp h
  exact List.nodup_cons.mpr ⟨by have:=(Bool.not_eq_true' _).mp h.1; simpa using this,ih h.2⟩
section
variable {W:Wd} {S:Sc} {g:Expr -> CE}
theorem sound_pairs {P:PX} {fr:Fr} {p:Pos} (H:∀ e,TE W (eval e W.env) (g e)) {ks:List (Option Expr)}:∀ {es:List Expr} {K:List V -> EE -> Fr -> St -> Prop} {m:Ms},(ks.all fun k => (keyOf k).isSome) = true -> ks.length = es.length -> At W fr m -> evs (mkEs (es.map g)) ⟨W.cx,P⟩ fr m.σ K -> ∀ {Q:List (Value × Value) -> Shared -> Prop},
  (∀ vs xs f m',K vs ⟨W.cx,P⟩ fr m'.σ -> Carries (strKind Pg W.b.w) xs f -> KVs (VM m') ((keysOf ks).zip vs) f -> Step No m m' -> At W fr m' -> Q xs m'.s) -> wpAny W.b.M W.A (evalPairs (pairTrees ks es W.env p)) Q (EX W P.exc) m.s:=by
 induction ks with
 | nil =>
  intro es K m _ hl Z q Q h
  cases es with
  | cons _ _ => cases hl
  | nil => exact evalPairs_nil (h [] [] [] m q trivial rfl StepH.refl Z)
 | cons k ks ih =>
  intro es K m hk hl Z q Q h
  cases es with
  | nil => cases hl
  | cons e es =>
   have hk:=Bool.and_eq_true_iff.mp hk
   cases k with
   | none => cases hk.1
   | some k =>
    obtain ⟨x,hx⟩:=Option.isSome_iff_exists.mp hk.1
    have hx:strOf k = some x:=hx
    have hks:keysOf (some k :: ks) = x :: keysOf ks:=by have:keyOf (some k) = some x:=hx; rw [keysOf,List.filterMap_cons,this]
    obtain ⟨kk,kp,rfl⟩:=strOf_inv hx
    refine evalPairs_cons (PySem.wpAny_Constant_str (wpAny_bind ((H e).run (Z.toks (Nat.le_add_left 1 _)) q fun v v' m1 q1 ev S1 Z1 => wpAny_bind (wpAny_standAt (wpAny_pure (ih hk.2 (Nat.succ.inj hl) Z1 q1 fun vs xs f m2 q2 c2 k2 S2 Z2 => ?_))))))
    exact h (v :: vs) _ ((x,v') :: f) m2 q2 ⟨str_key,rfl,c2⟩ (hks ▸ ⟨_,_,Step.vr S2 Z1.R ev,k2⟩) (S1.trans S2) Z2
theorem te_dict {ks:List (Option Expr)} {es:List Expr} {p:Pos} (H:∀ O e,TE { W with O:=O } (eval e W.env) (g e)) (hn:ks.length <= 15) (hl:ks.length = es.length) (hk:(ks.all fun k => (keyOf k).isSome) = true) (nd:keysNd (keysOf ks) = true):TE W (eval (.Dict ks es p) W.env) (.dict (keysOf ks) (mkEs (es.map g))):=fun P fr K m Z q => by
 by_cases h0:ks = []
 ·subst h0
  have he:es = []:=List.length_eq_zero_iff.mp hl.symm
  subst he
  exact wpAny_Dict_empty (ok_newD (kvs:=[]) (f:=[]) (Q:=fun v σ => K v ⟨W.cx,P⟩ fr σ) q.2 rfl Z.R rfl grown_push (Heap.DictOf.new _))
 ·have gr:Grown m.s.heap (m.s.heap.push { cls:=.type "dict",data:=.dict #[] }):=grown_push
  have hD:=get_size m.s.heap
  have hnew:(m.s.heap.push { cls:=.type "dict",data:=.dict #[] }).DictOf (SK W.b.w) m.s.heap.objs.size []:=Heap.DictOf.new _
  have hob:∃ o,(m.s.heap.push { cls:=.type "dict",data:=.dict #[] }).get? m.s.heap.objs.size = some o:=⟨_,Heap.get?_push_size _ rfl⟩
  refine wpAny_Dict_walk (knd:=strKind Pg W.b.w) (List.all_eq_true.mpr fun k h => by
   have:=List.all_eq_true.mp hk k h
   cases k with
   | none => cases this
   | some _ => rfl) hl h0 hn ?_
  generalize m.s.heap.push { cls:=.type "dict",data:=.dict #[] } = h1 at gr hnew hob ⊢
  generalize m.s.heap.objs.size = D at *
  have Z0:At { W with O:=⟨m.σ,m.g.hide D,{ m.s with heap:=h1 }⟩ } fr ⟨m.σ,m.g.hide D,{ m.s with heap:=h1 }⟩:=⟨hide_rel Z.R rfl gr hD hob,hide_fr (s':={ m.s with heap:=h1 }) Z.F gr hD,Z.t,StepH.refl⟩
  refine wpAny_mono (sound_pairs (W:={ W with O:=⟨m.σ,m.g.hide D,{ m.s with heap:=h1 }⟩ }) (P:=⟨P.ret,noX⟩) (H _) hk hl Z0 q fun vs xs f m1 q1 c1 k1 S1 Z1 => ?_) (fun _ _ z => z) fun _ _ z => EX.no (fun _ _ _ => id) z
  have fD:m1.g.forb D:=by rw [S1.forb]; exact .inr rfl
  have d1:m1.s.heap.DictOf (SK W.b.w) D []:=Heap.DictOf.at hnew fun o e => S1.exact _ o e (.inr rfl) id
  refine ⟨f,c1,d1,fun h' d2 hs => ?_⟩
  rw [merged_nil_of_nodup f (by rw [k1.keys,List.map_fst_zip (Nat.le_of_eq q1.1)]; exact keysNd_nodup nd)] at d2
  have T:Tch W.b m1 D { m1.s with heap:=h',toks:=m1.s.toks + xs.length }:=⟨But.of hs,rfl,fun i hi hx => Z1.R.disj i _ hi hx fD,Z.R.hb_none hD,fun _ => let ⟨o,_,_,e,_⟩:=d2; ⟨o,e⟩,fun o e => by
   obtain ⟨o',es',ep,e1,_,e2,_⟩:=d1
   rw [e1] at e; cases e; exact .inl (.d _ _ e2),FrOk.byDict (But.of hs) (let ⟨o,es,ep,e,_,d,_⟩:=d2; ⟨o,e,es,ep,d⟩)⟩
  have L:=late_cell (Q:=fun v σ => K v ⟨W.cx,P⟩ fr σ) (c:=.dict ((keysOf ks).zip vs)) (m':=⟨m1.σ,m1.g,{ m1.s with heap:=h',toks:=m1.s.toks + xs.length }⟩) Z.R (T.rel Z1.R) (((StepH.grown gr).trans S1).touch T.but hD) hD q1.2 fun M => ⟨f,d2,k1.mono fun _ _ z => (T.vr z).mono M,fun _ => Iff.rfl⟩
  obtain ⟨v,σ,g2,qq,R2,ev2,S2,_,_⟩:=L
  exact ⟨v,σ,g2,qq,R2,ev2,S2⟩
theorem set_pure {it:Expr} {env:Env} (h:starless it = true) (y:Value):foldedSetIterable it env y = pure y:=by
 unfold starless at h
 generalize view it = v at h
 cases v <;> first | rfl | cases h
noncomputable def CR (W:Wd) (elt it:Expr) (x:Str) (px p:Pos) (ifs:List Expr) (ia:Int) (sc:Scope) (c:CE):Prop:=∀ (P:PX) (fr:Fr) (K:KE) (m:Ms) (use:Option (Value -> Sem Unit)) (Q:Value -> Shared -> Prop),At W fr m -> ev c ⟨W.cx,P⟩ fr m.σ K ->
 (∀ v Da Ca m',K v ⟨W.cx,P⟩ fr m'.σ -> VM m' v (.ref Da) -> Step No m m' -> At W fr m' -> CompEnd W m Ca m' -> compPost W.b.M W.A (EX W P.exc) use Q (.ref Da) Ca (.ok .next) m'.s) ->
 wpAny W.b.M W.A (comprehension (.ListComp elt [⟨.Name x px,it,ifs,ia⟩] sc p) sc W.env (firstIterPos [⟨.Name x px,it,ifs,ia⟩] p) (newList []) (firstAsync [⟨.Name x px,it,ifs,ia⟩]) (eval it W.env) use) Q (EX W P.exc) m.s
theorem te_comp {elt it:Expr} {x:Str} {px p:Pos} {ifs:List Expr} {ia:Int} {sc:Scope} {c:CE} (H:CR W elt it x px p ifs ia sc c):TE W (eval (.ListComp elt [⟨.Name x px,it,ifs,ia⟩] sc p) W.env) c:=fun P fr K m Z q => by
 rw [arm_eval_ListComp]
 refine H P fr K m none _ Z q fun v Da Ca m' qv ev S Z' CE => ?_
 obtain ⟨f,hn⟩:=CE.ns
 refine ⟨f,hn,fun h' hs => ?_⟩
 have T:=CE.tch Z.R.fr rfl hn hs
 exact ⟨v,m'.σ,m'.g,qv,T.rel Z'.R,T.vr ev,S.touch T.but CE.new⟩
end
noncomputable def bmOf (m:Str):Option BM:=bif m == ("split":Str) then some .split else bif m == ("index":Str) then some .index else bif m == ("join":Str) then some .join else bif m == ("pop":Str) then some .pop else bif m == ("append":Str) then some .append else bif m == ("get":Str) then some .get else none
theorem bmOf_nm {m:Str} {f:BM} (h:bmOf m = some f):m = f.nm:=by
 have step:∀ {c:Bool} {x:BM} {o:Option BM},(bif c then some x else o) = some f -> (c = true /\ x = f) \/ o = some f:=fun {c x o} h => by
  cases c
  ·exact .inr h
  ·cases h; exact .inl ⟨rfl,rfl⟩
 rcases step h with ⟨e,rfl⟩ | h
 ·exact beq_iff_eq.mp e
 rcases step h with ⟨e,rfl⟩ | h
 ·exact beq_iff_eq.mp e
 rcases step h with ⟨e,rfl⟩ | h
 ·exact beq_iff_eq.mp e
 rcases step h with ⟨e,rfl⟩ | h
 ·exact beq_iff_eq.mp e
 rcases step h with ⟨e,rfl⟩ | h
 ·exact beq_iff_eq.mp e
 rcases step h with ⟨e,rfl⟩ | h
 ·exact beq_iff_eq.mp e
 cases h
noncomputable def replOf (m:Str) (args:List Expr):Option (Str × Str):=bif m == ("replace":Str) then (match args with
 | [a,b] => (strOf a).bind fun y => (strOf b).map fun z => (y,z)
 | _ => none) else none
noncomputable abbrev Comp0:=Sc -> List Str -> Option Bool -> Expr -> CE
section
variable (f:Comp0) (S:Sc) (ns:List Str)
noncomputable def attrE (e:Expr) (x:Str):CE:=match tabAttr.lookup x with
 | some cs => ifE (plainBase e) (.attr (f S ns (some false) e) x cs)
 | none => .fail
noncomputable def callNE (mk:Bool) (x:Str) (args:List Expr) (kws:List Keyword):CE:=ifE (notDebug x && noStar args && namedKw kws && (S.sc.names.lookup x == some .globalImplicit)) (match tabGl.lookup x with
 | some gv => callE mk gv (mkEs (args.map (f S ns (some false)))) (kwNames kws) (mkEs (kws.map fun k => f S ns (some false) k.value))
 | none => .fail)
noncomputable def callAE (mk:Bool) (o:Expr) (m:Str) (ap p:Pos) (args:List Expr) (kws:List Keyword):CE:=ifE (plainBase o && ap.endLine == p.line && decide (args.length + kws.length < 29) && noStar args && namedKw kws) (match replOf m args with
 | some (y,z) => ifE (kws.isEmpty && decide (z.length = 1) && decide (y ≠ z) && PyData.strOk z) (.repl (f S ns (some false) o) y z)
 | none => .meth mk (f S ns (some false) o) m ((tabMeth.lookup m).getD []) (bmOf m) (mkEs (args.map (f S ns (some false)))) (kwNames kws) (mkEs (kws.map fun k => f S ns (some false) k.value)))
noncomputable def compLE (mk:Bool) (elt:Expr) (x:Str) (it:Expr) (ifs:List Expr) (ia:Int) (sc:Scope):CE:=ifE (decide (ia = 0) && scOk S.sc sc x && starless it) (match ifs with
 | [] => .comp mk (f S ns (some false) it) ((keepNs sc ns 0).map (·.2)) (f ⟨sc,S.mu⟩ (innerNs sc x ns) (some false) elt)
 | [c] => .compIf mk (f S ns (some false) it) ((keepNs sc ns 0).map (·.2)) (f ⟨sc,S.mu⟩ (innerNs sc x ns) none c) (f ⟨sc,S.mu⟩ (innerNs sc x ns) (some false) elt)
 | _ => .fail)
noncomputable def formE (mk:Bool) {e:Expr}:View e -> CE
 | .const c _ _ => constE c
 | .name x _ => nameE S ns x
 | .bin l op r _ => .bin mk op (f S ns (some false) l) (f S ns (some false) r)
 | .not e _ => .not (f S ns (some false) e)
 | .neg e _ => .neg (f S ns (some false) e)
 | .bool op es _ => mkBool op (es.map (f S ns (some false)))
 | .ife t b o _ => .ite (f S ns none t) (f S ns (some mk) b) (f S ns (some mk) o)
 | .cmp l ops cs _ => ifE (noStar cs && ops.length == cs.length && !ops.isEmpty) (.cmp (f S ns (some false) l) ops (mkEs (cs.map (f S ns (some false)))))
 | .list es _ => .list mk (mkEs (es.map (f S ns (some false))))
 | .tup es _ _ => .tup (mkEs (es.map (f S ns (some mk))))
 | .dict ks es _ => ifE (decide (ks.length <= 15) && ks.length == es.length && (ks.all fun k => (keyOf k).isSome) && keysNd (keysOf ks)) (.dict (keysOf ks) (mkEs (es.map (f S ns (some false)))))
 | .attr e x _ => attrE f S ns e x
 | .slice e lo hi st _ _ => .slice mk (f S ns (some false) e) (optE (f S ns (some false)) lo) (optE (f S ns (some false)) hi) (optE (f S ns (some false)) st)
 | .sub e i _ _ => .sub (f S ns (some false) e) (f S ns (some false) i)
 | .callN x _ args kws _ => callNE f S ns mk x args kws
 | .callA o m ap args kws p => callAE f S ns mk o m ap p args kws
 | .comp elt x _ it ifs ia sc _ => compLE f S ns mk elt x it ifs ia sc
 | .other _ => .fail
noncomputable def formT {e:Expr} (v:View e):CE:=match v with
 | .not e _ => .not (f S ns none e)
 | .bool op es _ => mkAll op (es.map (f S ns none))
 | .ife t b o _ => .ite (f S ns none t) (f S ns none b) (f S ns none o)
 | .other _ => .fail
 | v => formE f S ns false v
end
noncomputable def compX (n:Nat):Comp0:=n.rec (fun _ _ _ _ => .fail) fun _ f S ns md e => match md with
 | some mk => formE f S ns mk (view e)
 | none => formT f S ns (view e)
theorem star_fail {n:Nat} {S:Sc} {ns:List Str} {mk:Bool} {e:Expr} (h:starless e = false):compX n S ns (some mk) e = .fail:=by
 cases n with
 | zero => rfl
 | succ n =>
  show formE (compX n) S ns mk (view e) = _
  unfold starless at h
  generalize view e = v at h ⊢
  cases v <;> first | rfl | cases h
structure Snd (n:Nat):Prop where
 e:∀ (W:Wd) S mk e,CtxOk W -> ScRel S W.env -> TE W (eval e W.env) (compX n S W.ns (some mk) e)
 t:∀ (W:Wd) S e,CtxOk W -> ScRel S W.env -> TB W (isTrue e W.env (eval e W.env)) (compX n S W.ns none e)
theorem tb_if {W:Wd} {t:Sem Bool} {b:Bool} {c:CE} (h:b = true -> TB W t c):TB W t (ifE b c):=by
 cases b with
 | true => exact h rfl
 | false => exact tb_fail
section
variable {n:Nat} {W:Wd} {S:Sc}
theorem and3 {a b c:Bool} (h:(a && b && c) = true):a = true /\ b = true /\ c = true:=by
 cases a <;> cases b <;> cases c <;> first | exact ⟨rfl,rfl,rfl⟩ | cases h
theorem snd_attr (C:CtxOk W) (H:∀ e,TE W (eval e W.env) (compX n S W.ns (some false) e)) {e:Expr} {x:Str} {p:Pos}:TE W (eval (.Attribute e x p) W.env) (attrE (compX n) S W.ns e x):=by
 unfold attrE
 cases h:tabAttr.lookup x with
 | none => exact te_fail
 | some cs => exact te_if fun hb => te_attr C hb h (H e)
theorem snd_callN (C:CtxOk W) (HS:ScRel S W.env) (H:∀ e,TE W (eval e W.env) (compX n S W.ns (some false) e)) {mk:Bool} {x:Str} {q p:Pos} {args:List Expr} {kws:List Keyword}:TE W (eval (.Call (.Name x q) args kws p) W.env) (callNE (compX n) S W.ns mk x args kws):=te_if fun h => by
 obtain ⟨h1,h2,h3⟩:=and3 h
 obtain ⟨h0,h1⟩:=Bool.and_eq_true_iff.mp h1
 cases hg:tabGl.lookup x with
 | none => exact te_fail
 | some gv => exact te_callN C HS H (fun e h => star_fail h) h0 h1 h2 (beq_iff_eq.mp h3) hg
theorem repl_inv {m:Str} {args:List Expr} {y z:Str} (h:replOf m args = some (y,z)):∃ k1 p1 k2 p2,m = "replace" /\ args = [.Constant (.str y) k1 p1,.Constant (.str z) k2 p2]:=by
 unfold replOf at h
 cases hm:m == ("replace":Str) with
 | false => rw [hm] at h; cases h
 | true =>
  rw [hm] at h
  cases args with
  | nil => cases h
  | cons a r =>
   cases r with
   | nil => cases h
   | cons b r =>
    cases r with
    | cons _ _ => cases h
    | nil =>
     obtain ⟨y',e1,h⟩:=bind_of h
     obtain ⟨z',e2,h⟩:=Option.map_eq_some_iff.mp h
     cases h
     obtain ⟨k1,p1,rfl⟩:=strOf_inv e1
     obtain ⟨k2,p2,rfl⟩:=strOf_inv e2
     exact ⟨k1,p1,k2,p2,beq_iff_eq.mp hm,rfl⟩
theorem snd_callA (C:CtxOk W) (H:∀ e,TE W (eval e W.env) (compX n S W.ns (some false) e)) {mk:Bool} {o:Expr} {m:Str} {ap p:Pos} {args:List Expr} {kws:List Keyword}:TE W (eval (.Call (.Attribute o m ap) args kws p) W.env) (callAE (compX n) S W.ns mk o m ap p args kws):=te_if fun h => by
 obtain ⟨h1,h2,h3⟩:=and3 h
 obtain ⟨h0,h4,h1⟩:=and3 h1
 have h4:=beq_iff_eq.mp h4
 cases hr:replOf m args with
 | some yz =>
  obtain ⟨y,z⟩:=yz
  refine te_if fun h => ?_
  obtain ⟨g1,g2,g3⟩:=and3 h
  obtain ⟨g0,g1⟩:=Bool.and_eq_true_iff.mp g1
  obtain ⟨k1,p1,k2,p2,rfl,rfl⟩:=repl_inv hr
  cases List.isEmpty_iff.mp g0
  exact te_repl h0 h4 (of_decide_eq_true g1) (of_decide_eq_true g2) g3 (H o)
 | none =>
  refine te_callA C H (fun e h => star_fail h) h0 h4 (of_decide_eq_true h1) h2 h3 (fun c f hf => ?_) fun f => bmOf_nm
  cases ht:tabMeth.lookup m with
  | none => rw [ht] at hf; cases hf
  | some ms => rw [ht] at hf; exact C.T.meth m ms ht c f hf
theorem cr_comp (ih:Snd n) (C:CtxOk W) (HS:ScRel S W.env) {mk:Bool} {elt it:Expr} {x:Str} {q p:Pos} {ifs:List Expr} {ia:Int} {sc:Scope}:CR W elt it x q p ifs ia sc (compLE (compX n) S W.ns mk elt x it ifs ia sc):=fun P fr K m use Q Z hq hP => by
 unfold compLE at hq
 cases h:(decide (ia = 0) && scOk S.sc sc x && starless it) with
 | false => rw [h] at hq; exact hq.elim
 | true =>
  rw [h] at hq
  obtain ⟨h1,h2,h3⟩:=and3 h
  cases of_decide_eq_true h1
  have He:=fun cenv O (hc:ScRel ⟨sc,S.mu⟩ cenv) => ih.e { W with env:=cenv,ns:=innerNs sc x W.ns,O:=O } ⟨sc,S.mu⟩ false elt (C.sub _ _ _) hc
  cases ifs with
  | nil => exact comp_run (mk:=mk) C HS (ih.e W S false it C HS) He (fun _ _ _ => .no) h2 (set_pure h3) Z hq hP
  | cons c r =>
   cases r with
   | nil => exact comp_run (mk:=mk) C HS (ih.e W S false it C HS) He (fun cenv O hc => .one c _ (ih.t { W with env:=cenv,ns:=innerNs sc x W.ns,O:=O } ⟨sc,S.mu⟩ c (C.sub _ _ _) hc)) h2 (set_pure h3) Z hq hP
   | cons _ _ => exact hq.elim
theorem snd_e (ih:Snd n) (C:CtxOk W) (HS:ScRel S W.env) (mk:Bool) {e:Expr} (v:View e):TE W (eval e W.env) (formE (compX n) S W.ns mk v):=by
 have H:∀ mk e,TE W (eval e W.env) (compX n S W.ns (some mk) e):=fun mk e => ih.e W S mk e C HS
 have HT:∀ e,TB W (isTrue e W.env (eval e W.env)) (compX n S W.ns none e):=fun e => ih.t W S e C HS
 cases v with
 | const c k p => exact te_const
 | name x p => exact te_name C HS
 | bin l op r p => exact te_bin (H false l) (H false r)
 | not e p => exact te_not (H false e)
 | neg e p => exact te_neg (H false e)
 | bool op es p => exact te_bool (H false)
 | ife t b o p => exact te_ife (HT t) (H mk b) (H mk o)
 | cmp l ops cs p =>
  refine te_if fun h => ?_
  obtain ⟨h1,h2,h3⟩:=and3 h
  exact te_cmp C (H false) h1 (beq_iff_eq.mp h2) fun z => by subst z; cases h3
 | list es p => exact te_list (H false) fun e h => star_fail h
 | tup es k p => exact te_tup (H mk) fun e h => star_fail h
 | dict ks es p =>
  refine te_if fun h => ?_
  obtain ⟨h1,h2,h3⟩:=and3 h
  obtain ⟨h0,h1⟩:=Bool.and_eq_true_iff.mp h1
  exact te_dict (fun O e => ih.e { W with O:=O } S false e (C.sub _ _ _) HS) (of_decide_eq_true h0) (beq_iff_eq.mp h1) h2 h3
 | attr e x p => exact snd_attr C (H false)
 | slice e lo hi st q p => exact te_slice (H false)
 | sub e i p h => exact te_sub h (H false e) (H false i)
 | callN x q args kws p => exact snd_callN C HS (H false)
 | callA o m ap args kws p => exact snd_callA C (H false)
 | comp elt x q it ifs ia sc p => exact te_comp (cr_comp ih C HS)
 | other e => exact te_fail
theorem snd_t (ih:Snd n) (C:CtxOk W) (HS:ScRel S W.env) {e:Expr} (v:View e):TB W (isTrue e W.env (eval e W.env)) (formT (compX n) S W.ns v):=by
 have HT:∀ e,TB W (isTrue e W.env (eval e W.env)) (compX n S W.ns none e):=fun e => ih.t W S e C HS
 have pl:∀ {e:Expr} (v:View e),isTrue e W.env (eval e W.env) = (do let v <- eval e W.env; standAt e.pos; holding [v] (truthy v)) -> TB W (isTrue e W.env (eval e W.env)) (formE (compX n) S W.ns false v):=fun v h => tb_plain (snd_e ih C HS false v) h
 cases v with
 | not e p => exact tb_not (HT e)
 | bool op es p => exact fun P fr K m Z q => wpAny_isTrue_BoolOp (tb_all HT P fr K m Z q)
 | ife t b o p => exact tb_ife (HT t) (HT b) (HT o)
 | cmp l ops cs p =>
  refine tb_if fun h => ?_
  obtain ⟨h1,h2,h3⟩:=and3 h
  exact tb_cmp C (fun e => ih.e W S false e C HS) h1 (beq_iff_eq.mp h2) fun z => by subst z; cases h3
 | const c k p => exact pl (.const c k p) rfl
 | name x p => exact pl (.name x p) rfl
 | bin l op r p => exact pl (.bin l op r p) rfl
 | neg e p => exact pl (.neg e p) rfl
 | list es p => exact pl (.list es p) rfl
 | tup es k p => exact pl (.tup es k p) rfl
 | dict ks es p => exact pl (.dict ks es p) rfl
 | attr e x p => exact pl (.attr e x p) rfl
 | slice e lo hi st q p => exact pl (.slice e lo hi st q p) rfl
 | sub e i p h => exact pl (.sub e i p h) rfl
 | callN x q args kws p => exact pl (.callN x q args kws p) rfl
 | callA o m ap args kws p => exact pl (.callA o m ap args kws p) rfl
 | comp elt x q it ifs ia sc p => exact pl (.comp elt x q it ifs ia sc p) rfl
 | other e => exact tb_fail
end
theorem snd (n:Nat):Snd n:=by
 induction n with
 | zero => exact ⟨fun _ _ _ _ _ _ => te_fail,fun _ _ _ _ _ => tb_fail⟩
 | succ n ih => exact ⟨fun W S mk e C HS => snd_e ih C HS mk (view e),fun W S e C HS => snd_t ih C HS (view e)⟩
section
variable {b:Hb} {m:Ms} {A:Around} {E:Value -> Shared -> Prop}
set_option maxRecDepth 200000 in
theorem put_item {s:Shared} {l:Addr} {items:Array Value} {i:Int} {t:Tok} {v:Value} {P:Unit -> Shared -> Prop} (hl:s.heap.PlainList l items) (h0:0 <= i) (hi:i < items.size) (hf:i < 2 ^ 63)
  (hP:∀ h',h'.PlainList l (items.setIfInBounds i.toNat v) -> Heap.SameBut l s.heap h' -> P () { s with heap:=h' }):wpAny b.M A (setItem (.ref l) (.int i t) v) P E s:=by
 have hL:=hl.isList
 obtain ⟨m,ho⟩:=hl
 unfold setItem
 try with_reducible refine wpAny_holding ?_
 first | refine wpAny_bind (wpAny_pure ?_) | skip
 refine wpAny_bind (wpAny_sequenceKey hL.typeIs (by decide) ?_)
 refine wpAny_bind ?_
 refine wpAny_callSpecial?_slot (name:=Str.ofString "__setitem__") hL.typeIs PySem.slot_list_setitem ?_
 refine wpAny_call_entry PySem.slot_list_setitem hL.typeIs PySem.entry_list_setitem ?_ (PySem.args_list_setitem _ _ _)
 show wpAny _ _ (Builtin.List.listSubscript? (.int i t) >>= _) _ _ s
 refine wpAny_bind (wpAny_listSubscript_int (fitsIndex_of h0 hf) ?_)
 clear hf
 obtain ⟨j,rfl⟩:=Int.eq_ofNat_of_zero_le h0
 have hj:j < items.size:=Int.ofNat_lt.mp hi
 show wpAny _ _ ((seqItemAt l j >>= fun r => pure (r.map (j,·))) >>= _) _ _ s
 refine wpAny_bind (wpAny_bind (wpAny_seqItemAt ho rfl (wpAny_pure ?_)))
 rw [Array.getElem?_eq_getElem hj]
 show wpAny _ _ (setSeqItemAt l j v >>= _) _ _ s
 refine wpAny_bind (wpAny_setSeqItemAt ho rfl ?_)
 have fin:P () { s with heap:=s.heap.update l (Obj.mapSeq (·.setIfInBounds j v)) }:=hP _ ⟨_,Heap.get?_update_self _ ho rfl⟩ (Heap.SameBut.update ..)
 first
  | exact wpAny_bind (wpAny_pure (wpAny_pure ⟨.none,rfl,wpAny_pure fin⟩))
  | exact wpAny_pure ⟨.none,rfl,wpAny_pure fin⟩
theorem vrs_set {h:Heap} {U:Addr -> Prop} {T:Nat -> Value -> Prop} {v:V} {v':Value} (ev:VR h U T v v') {l:List V}:∀ {x:List Value} {i:Nat},VRs h U T l x -> VRs h U T (l.set i v) (x.set i v'):=by
 induction l with
 | nil => intro x i e; cases e; exact rfl
 | cons u l ih =>
  intro x i e
  obtain ⟨y,ys,e1,e2⟩:=e
  cases i with
  | zero => exact ⟨_,_,ev,e2⟩
  | succ i => exact ⟨_,_,e1,ih e2⟩
theorem kvs_upd {P:V -> Value -> Prop} {x:Str} {v:V} {v':Value} (ev:P v v') {kvs:List (Str × V)}:∀ {f:List (Str × Value)},KVs P kvs f -> (f.map (·.1)).Nodup -> KVs P (upd kvs x v) (stored f x v'):=by
 induction kvs with
 | nil => intro f e _; cases e; exact ⟨v',[],ev,rfl⟩
 | cons p r ih =>
  intro f e nd
  obtain ⟨y,u⟩:=p
  obtain ⟨z,zs,e1,e2⟩:=e
  rw [List.map_cons,List.nodup_cons] at nd
  unfold upd
  by_cases q:y = x
  ·subst q
   rw [if_pos rfl]
   have:stored ((y,z) :: zs) y v' = (y,v') :: zs:=by
    unfold stored
    simp only [List.any_cons,decide_true,Bool.true_or,if_true,List.map_cons]
    congr 1
    refine (List.map_congr_left fun p hp => ?_).trans (List.map_id zs)
    rw [if_neg (fun q => nd.1 (List.mem_map.mpr ⟨p,hp,q⟩))]; rfl
   rw [this]
   exact ⟨_,_,ev,e2⟩
  ·rw [if_neg q]
   have:stored ((y,z) :: zs) x v' = (y,z) :: stored zs x v':=by
    unfold stored
    simp only [List.any_cons,q,decide_false,Bool.false_or,List.map_cons,if_false]
    split <;> simp
   rw [this]
   exact ⟨_,_,e1,ih e2 nd.2⟩
theorem khs_append {P:V -> Value -> Prop} {x:List Str} {a:Addr} {v:V} {v':Value} (ev:P v v') {kvs:List (List Str × V)}:∀ {f:List (List Str × Addr × Value)},KHs P kvs f -> KHs P (kvs ++ [(x,v)]) (f ++ [(x,a,v')]):=by
 induction kvs with
 | nil => intro f e; cases e; exact ⟨a,v',[],ev,rfl⟩
 | cons p r ih => intro f e; obtain ⟨c,z,zs,e1,e2⟩:=e; exact ⟨c,z,_,e1,ih e2⟩
theorem khs_len {P:V -> Value -> Prop} {kvs:List (List Str × V)}:∀ {f:List (List Str × Addr × Value)},KHs P kvs f -> f.length = kvs.length:=by
 induction kvs with
 | nil => intro f e; cases e; rfl
 | cons p r ih => intro f e; obtain ⟨c,z,zs,e1,e2⟩:=e; exact congrArg (· + 1) (ih e2)
theorem set_tdict {n:Nat} {c:Cell} {kvs:List (List Str × V)} {ss:List Str} {ks:List V} {ka:Addr} {items:Array Value} {f:List (List Str × Addr × Value)} {v:V} {vv:Value} {P:Unit -> Shared -> Prop} (hroom:A.units + 70 < cLine) (R:Rel b m) (e:m.σ[n]? = some c) (hw:∀ x,m.g.ow n x ↔ x = m.g.ρ n)
  (q1:strsOf ks = some ss) (hp:PlainTup m.s.heap ka items) (rk:VMs m ks items.toList) (d1:m.s.heap.DictOfH (tupleKind (SK b.w)) (m.g.ρ n) f) (d3:∀ x ∈ f,∃ items,PlainTup m.s.heap x.2.1 items) (d2:KHs (VM m) kvs f) (ev:VM m v vv) (hb:kvs.length < big) (hn:kvs.lookup ss = none)
  (hP:∀ m',m'.σ = m.σ.set n (.tdict (kvs ++ [(ss,v)])) -> Rel b m' -> Step No m m' -> P () m'.s):wpAny b.M A (setItem (.ref (m.g.ρ n)) (.ref ka) vv) P E m.s:=by
 have ha:atKey f ss = none:=by
  have:=khs_value d2 (s:=ss)
  rw [hn] at this
  exact Option.isNone_iff_eq_none.mp (by cases z:atKey f ss with | none => rfl | some x => rw [z] at this; cases this)
 refine wpAny_setItem_heap (hsz:=by rw [khs_len d2]; exact Nat.le_trans (Nat.le_of_lt hb) big_le) (tupleKind_room_in1 (by lia)) (tuple_key q1 hp rk) d1 fun h' p1 p2 => ?_
 rw [storedH_new ha] at p1
 have keep:∀ b items,PlainTup m.s.heap b items -> PlainTup h' b items:=fun b items ⟨n,e⟩ => ⟨n,(p2.2 b fun z => by obtain ⟨o,es,ep,o1,_,o2,_⟩:=d1; rw [z,o1] at e; cases e; cases o2).trans e⟩
 obtain ⟨R',S⟩:=R.setOne (s':={ m.s with heap:=h',toks:=_ }) (c':=.tdict (kvs ++ [(ss,v)])) e hw rfl p2 (let ⟨o,_,_,q,_⟩:=p1; ⟨o,q⟩) fun S => ⟨_,p1,(fun x hx => (List.mem_append.mp hx).elim (fun hx => (d3 x hx).imp fun its z => keep _ _ z) fun hx => by rw [List.mem_singleton.mp hx]; exact ⟨items,keep _ _ hp⟩),(khs_append ev d2).mono fun _ _ z => Step.vr S R z,hw⟩
 exact hP ⟨_,_,{ m.s with heap:=h',toks:=_ }⟩ rfl R' S
theorem sound_setitem {a i v:V} {va vi vv:Value} {σ':St} {P:Unit -> Shared -> Prop} (hroom:A.units + 70 < cLine) (R:Rel b m) (ea:VM m a va) (ei:VM m i vi) (ev:VM m v vv) (q:setItemF a i v m.σ = some σ') (hP:∀ m',m'.σ = σ' -> Rel b m' -> Step No m m' -> P () m'.s):wpAny b.M A (setItem va vi vv) P E m.s:=by
 obtain ⟨n,e1,q⟩:=bind_of q
 rw [V.ref_of e1] at ea
 obtain ⟨hn⟩:=ea
 obtain ⟨c,q0,rfl⟩:=Option.map_eq_some_iff.mp q
 cases i with
 | int k =>
  obtain ⟨l,e2,q⟩:=bind_of q0
  obtain ⟨t⟩:=ei
  by_cases hc:0 <= k /\ k < 2 ^ 63 /\ k.toNat < l.length
  ·rw [if_pos hc] at q
   cases q
   obtain ⟨items,hp,r,hw⟩:=R.at_ n _ (lstAt_of e2)
   refine put_item hp hc.1 (by rw [r.size]; omega) hc.2.1 fun h' p1 p2 => ?_
   obtain ⟨R',S⟩:=R.setList (s':={ m.s with heap:=h' }) (l':=l.set k.toNat v) (lstAt_of e2) rfl p2 p1 (by rw [Array.toList_setIfInBounds]; exact vrs_set ev r)
   exact hP ⟨_,_,{ m.s with heap:=h' }⟩ rfl R' S
  ·rw [if_neg hc] at q; cases q
 | str s =>
  obtain ⟨kvs,e2,q⟩:=bind_of q0
  obtain ⟨t,_⟩:=ei
  by_cases hc:kvs.length < big
  ·rw [if_pos hc] at q
   cases q
   obtain ⟨f,d1,d2,hw⟩:=R.at_ n _ (dictAt_of e2)
   refine wpAny_setItem_pairs (hsz:=by rw [d2.length]; exact Nat.le_trans (Nat.le_of_lt hc) big_le) str_key d1 fun h' p1 p2 => ?_
   obtain ⟨R',S⟩:=R.setDict (s':={ m.s with heap:=h',toks:=_ }) (l':=upd kvs s v) (dictAt_of e2) rfl p2 p1 (kvs_upd ev d2 (let ⟨_,_,_,_,_,_,_,_,nd⟩:=d1; nd))
   exact hP ⟨_,_,{ m.s with heap:=h',toks:=_ }⟩ rfl R' S
  ·rw [if_neg hc] at q; cases q
 | tup ks =>
  obtain ⟨ss,q1,q⟩:=bind_of q0
  obtain ⟨c0,e2,q⟩:=bind_of q
  obtain ⟨ka,items,hp,rk⟩:=ei
  cases c0 with
  | dict kvs =>
   obtain ⟨hk,rfl⟩:=bif_some q
   obtain ⟨f,d1,d2,hw⟩:=R.at_ n _ e2
   rw [List.isEmpty_iff.mp hk] at d2
   cases d2
   exact set_tdict (kvs:=[]) hroom R e2 hw q1 hp rk (dict_none d1) (fun _ h => nomatch h) rfl ev (by decide) rfl hP
  | tdict kvs =>
   have q:(if kvs.length < big /\ kvs.lookup ss = none then some (Cell.tdict (kvs ++ [(ss,v)])) else none) = some c:=q
   by_cases hc:kvs.length < big /\ kvs.lookup ss = none
   ·rw [if_pos hc] at q
    cases q
    obtain ⟨f,d1,d3,d2,hw⟩:=R.at_ n _ e2
    exact set_tdict hroom R e2 hw q1 hp rk d1 d3 d2 ev hc.1 hc.2 hP
   ·rw [if_neg hc] at q; cases q
  | _ => cases q
 | _ => cases q
end
section
variable {W:Wd} {S:Sc} {n:Nat}
theorem ts_fail {t:Sem Flow} {c:SC} (h:∀ e fr σ N,¬ c e fr σ N):TS W t c:=fun P fr N m Z q => (h _ _ _ _ q).elim
theorem swaps_no {e:Expr} {t:Option Expr} {l:Nat} {env:Env} (he:starless e = true) (hc:∀ elt gens sc p,swapsWith (.ListComp elt gens sc p) t l env = pure false):swapsWith e t l env = pure false:=by
 unfold starless at he
 generalize view e = v at he
 cases v with
 | comp => exact hc _ _ _ _
 | other => cases he
 | _ => rfl
theorem swaps_none {e:Expr} {l:Nat} {env:Env} {t:Option Expr} (he:notComp e = true):swapsWith e t l env = pure false:=by
 unfold notComp at he
 generalize view e = v at he
 cases v with
 | comp => cases he
 | other => cases he
 | _ => rfl
theorem code_star {mk:Bool} {e:Expr} {E:EE} {fr:Fr} {σ:St} {K:KE} (q:ev (compX n S W.ns (some mk) e) E fr σ K):starless e = true:=by
 cases h:starless e with
 | true => rfl
 | false => rw [star_fail h] at q; exact q.elim
theorem ts_expr {e:Expr} {p:Pos} {c:CE} (hn:notComp e = true) (H:TE W (eval e W.env) c):TS W (exec (.Expr e p) W.env) (evS (.expr c)):=fun P fr N m Z q =>
 wpAny_Expr_any (H.run Z q fun v v' m1 q1 e1 S1 Z1 => ⟨fr,m1.σ,m1.g,q1,Z1⟩) (by unfold interactive; rw [Z.F.st.kind]; rfl) (swaps_none hn)
theorem ts_ret {e:Expr} {p:Pos} {c:CE} (H:TE W (eval e W.env) c):TS W (exec (.Return (some e) p) W.env) (evS (.ret c)):=fun P fr N m Z q =>
 wpAny_Return_some (H.run Z q fun v v' m1 q1 e1 S1 Z1 => ⟨v,fr,m1.σ,m1.g,q1,Z1,e1⟩)
theorem ts_retN {p:Pos}:TS W (exec (.Return none p) W.env) (evS (.ret (.const .none))):=fun P fr N m Z q => wpAny_Return_none ⟨.none,fr,m.σ,m.g,q,Z,rfl⟩
theorem ts_setattr (C:CtxOk W) {o e:Expr} {x:Str} {ap p:Pos} {mk:Bool} {cs:List Addr} (ha:tabAttr.lookup x = some cs) (H:∀ mk e,TE W (eval e W.env) (compX n S W.ns (some mk) e)) :
  TS W (exec (.Assign [.Attribute o x ap] e p) W.env) (evS (.setattr (compX n S W.ns (some false) o) x cs (compX n S W.ns (some mk) e))):=fun P fr N m Z q => by
 have q':ev (compX n S W.ns (some mk) e) ⟨W.cx,P⟩ fr m.σ _:=q
 refine plainObj_wpAny_Assign_Attribute ((H mk e).run Z q' fun v v' m1 q1 e1 S1 Z1 => (H false o).run Z1 q1 fun a a' m2 q2 e2 S2 Z2 => ?_) (swaps_no (code_star q') fun _ _ _ _ => rfl)
 obtain ⟨σ',e3,q3⟩:=q2
 exact wpAny_with_toks Z2.t (sound_setattr C.T.inK (C.T.attr x cs ha) Z2.R e2 (Step.vr S2 Z1.R e1) e3 fun m3 e4 _ R3 S3 t => ⟨fr,m3.σ,m3.g,e4 ▸ q3,Z2.step R3 S3 t⟩)
theorem ts_setitem (C:CtxOk W) {o i e:Expr} {ap p:Pos} (H:∀ e,TE W (eval e W.env) (compX n S W.ns (some false) e)) :
  TS W (exec (.Assign [.Subscript o i ap] e p) W.env) (evS (.setitem (compX n S W.ns (some false) o) (compX n S W.ns (some false) i) (compX n S W.ns (some false) e))):=fun P fr N m Z q => by
 have q':ev (compX n S W.ns (some false) e) ⟨W.cx,P⟩ fr m.σ _:=q
 refine PySem.wpAny_Assign_Subscript ((H e).run Z q' fun v v' m1 q1 e1 S1 Z1 => (H o).run Z1 q1 fun a a' m2 q2 e2 S2 Z2 => (H i).run Z2 q2 fun j j' m3 q3 e3 S3 Z3 => ?_) (swaps_no (code_star q') fun _ _ _ _ => rfl)
 obtain ⟨σ',e4,q4⟩:=q3
 exact wpAny_with_toks Z3.t (sound_setitem C.room Z3.R (Step.vr S3 Z2.R e2) e3 (Step.vr S3 Z2.R (Step.vr S2 Z1.R e1)) e4 fun m4 e5 R4 S4 t => ⟨fr,m4.σ,m4.g,e5 ▸ q4,Z3.step R4 S4 t⟩)
theorem ts_ite {t:Expr} {b o:List Stmt} {p:Pos} {c:CE} {cb co:CSs} (Ht:TB W (isTrue t W.env (eval t W.env)) c) (Hb:TS W (execs b W.env) (evSs cb)) (Ho:TS W (execs o W.env) (evSs co)):TS W (exec (.If t b o p) W.env) (evS (.ite c cb co)):=fun P fr N m Z q =>
 wpAny_If (Ht.run Z (K:=fun c e fr σ => Br c (evSs cb e fr σ N) (evSs co e fr σ N)) q fun c m1 q1 S1 Z1 => by
  rcases q1.run with ⟨rfl,q2⟩ | ⟨rfl,q2⟩
  ·exact Hb P fr N m1 Z1 q2
  ·exact Ho P fr N m1 Z1 q2)
theorem ts_nil:TS W (execs [] W.env) (evSs .nil):=fun P fr N m Z q => wpAny_execs_nil ⟨fr,m.σ,m.g,q,Z⟩
theorem ts_cons {st:Stmt} {r:List Stmt} {c:CS} {cr:CSs} (H:TS W (exec st W.env) (evS c)) (Hr:TS W (execs r W.env) (evSs cr)):TS W (execs (st :: r) W.env) (evSs (.cons c cr)):=fun P fr N m Z q =>
 wpAny_execs_cons (H.run Z (N:=fun e fr σ => evSs cr e fr σ N) q (fun fr m1 q1 Z1 => Hr P fr N m1 Z1 q1) fun v v' fr m1 q1 e1 Z1 => ⟨v,fr,m1.σ,m1.g,q1,Z1,e1⟩)
noncomputable def nameOk (S:Sc) (x:Str):Bool:=S.sc.names.lookup x == some .local || S.sc.names.lookup x == some .cell
theorem nameOk_kind (HS:ScRel S W.env) {x:Str} (q:nameOk S x = true):W.env.kindOf x = some .local \/ W.env.kindOf x = some .cell:=by
 unfold nameOk at q
 rw [Bool.or_eq_true,beq_iff_eq,beq_iff_eq] at q
 exact q.imp (kind_same HS nofun) (kind_same HS nofun)
theorem ts_asg0 {x:Str} {xp p:Pos} {i:Nat} {e:Expr} {c:CE} (nd:W.ns.Nodup) (hi:slot x W.ns = some i) (kx:W.env.kindOf x = some .local \/ W.env.kindOf x = some .cell) (hs:swapsWith e (some (.Name x xp)) p.line W.env = pure false) (H:TE W (eval e W.env) c):TS W (exec (.Assign [.Name x xp] e p) W.env) (evS (.asg i c)):=fun P fr N m Z q =>
 wpAny_Assign_Name (H.run Z q fun v v' m1 q1 e1 S1 Z1 => store_name Z1.R Z1.F e1 kx fun s2 z => ⟨setF fr i v,m1.σ,m1.g,q1,z.at Z1 nd hi⟩) hs
theorem ts_asgC {x y:Str} {xp yp p cp:Pos} {i:Nat} {elt it:Expr} {ifs:List Expr} {ia:Int} {sc:Scope} {c:CE} (nd:W.ns.Nodup) (hi:slot x W.ns = some i) (kx:W.env.kindOf x = some .local) (hs:swapsWith (.ListComp elt [⟨.Name y yp,it,ifs,ia⟩] sc cp) (some (.Name x xp)) p.line W.env = pure true) (H:CR W elt it y yp cp ifs ia sc c) :
  TS W (exec (.Assign [.Name x xp] (.ListComp elt [⟨.Name y yp,it,ifs,ia⟩] sc cp) p) W.env) (evS (.asg i c)):=fun P fr N m Z q => by
 rw [exec_Assign_Name_used _ _ _ _ hs]
 refine wpAny_bind (wpAny_standAt (wpAny_bind ?_))
 rw [arm_evalThenUse_ListComp]
 refine wpAny_bind (wpAny_mono (H P fr _ m (some (assign (.Name x xp) W.env)) (fun _ s => SOK W P.ret (fun fr σ => N ⟨W.cx,P⟩ fr σ) .next s) Z q fun v Da Ca m' q1 e1 S1 Z1 CE => ?_) (fun _ s z => wpAny_pure (wpAny_pure z)) fun _ _ z => z)
 show wpAny W.b.M W.A (assign (.Name x xp) W.env (.ref Da)) _ _ m'.s
 refine wpAny_assign_Name (store_name Z1.R Z1.F e1 (.inl kx) fun s2 z => ?_)
 have Z2:=z.at Z1 nd hi
 obtain ⟨f,hn⟩:=CE.ns
 have hn2:s2.heap.Ns Ca f:=by
  obtain ⟨D,T,own,_⟩:=z
  exact hn.at' fun o e => T.but Ca o (fun q => CE.own (q ▸ own)) e
 refine ⟨f,hn2,fun h3 hs3 => ?_⟩
 have T:=CE.tch (m2:=⟨m'.σ,m'.g,s2⟩) Z.R.fr rfl hn2 hs3
 exact ⟨setF fr i v,m'.σ,m'.g,q1,T.rel Z2.R,T.fr CE.own Z2.F,Z2.t,Z2.S.touch T.but (StepH.new_none Z.S CE.new)⟩
theorem ts_asg (sn:Snd n) (ihn:∀ k,n = k + 1 -> Snd k) (C:CtxOk W) (HS:ScRel S W.env) {x:Str} {xp p:Pos} {i:Nat} {mk:Bool} {e:Expr} (nd:W.ns.Nodup) (hi:slot x W.ns = some i) (hx:nameOk S x = true):TS W (exec (.Assign [.Name x xp] e p) W.env) (evS (.asg i (compX n S W.ns (some mk) e))):=by
 have kx:=nameOk_kind HS hx
 have plain:=fun hs => ts_asg0 (p:=p) (xp:=xp) nd hi kx hs (sn.e W S mk e C HS)
 cases hn:notComp e with
 | true => exact plain (swaps_none hn)
 | false =>
  cases n with
  | zero => exact ts_fail fun _ _ _ _ q => q
  | succ k =>
   have cr:=fun {elt x q it ifs ia sc p} => cr_comp (p:=p) (q:=q) (elt:=elt) (x:=x) (it:=it) (ifs:=ifs) (ia:=ia) (sc:=sc) (mk:=mk) (ihn k rfl) C HS
   have hc:compX (k + 1) S W.ns (some mk) e = formE (compX k) S W.ns mk (view e):=rfl
   rw [hc] at plain ⊢
   unfold notComp at hn
   generalize view e = v at hn plain ⊢
   cases v with
   | comp elt y yp it ifs ia sc cp =>
    have hb:∃ r:Bool,swapsWith (.ListComp elt [⟨.Name y yp,it,ifs,ia⟩] sc cp) (some (.Name x xp)) p.line W.env = pure r /\ (r = true -> W.env.kindOf x = some .local):=⟨_,rfl,fun q => by
     simp only [Bool.and_eq_true,beq_iff_eq] at q
     exact q.1.1.2⟩
    obtain ⟨r,hs,hl⟩:=hb
    cases r with
    | false => exact plain hs
    | true => exact ts_asgC nd hi (hl rfl) hs cr
   | other => exact ts_fail fun _ _ _ _ q => q
   | _ => cases hn
end
section
variable {M:Model} {A:Around} {E:Value -> Shared -> Prop} {s:Shared} {B:Heap} {env:Env} {outer:List Env} {L ea c:Addr}
inductive Noted (B:Heap) (l:List Env) (ea c:Addr) (fl:Value) (h h':Heap):Prop | mk (a0:Value) (s:B.StaysIn h') (f:h'.FunFrames B l) (t:h'.TracedAtW B ea (.ref c) a0 fl) (u:h.UpToSlots h')
theorem flight_set {l:List Env} {a0 fl:Value} {Q:Unit -> Shared -> Prop} (hkb:B.StaysIn s.heap) (hl:s.heap.FunFrames B l) (ht:s.heap.TracedAtW B ea (.ref c) a0 fl)
  (h:∀ h',Noted B l ea c (rawInt L) s.heap h' -> Q () { s with heap:=h' }):wpAny M A (setFlight (.ref ea) (some L)) Q E s:=by
 obtain ⟨oe,vs,T,oT,ts,he,hcls,hd,h1,hnT,hTe,hT,hdT,h3⟩:=ht
 have z3:3 < ts.size:=(Array.getElem?_eq_some_iff.mp h3).1
 unfold setFlight
 refine wpAny_bind (wpAny_field he hd h1 ?_)
 rw [if_pos (show (Value.ref T != Value.none) = true from by simp)]
 refine wpAny_setField hT hdT z3 ?_
 generalize hh:s.heap.update T (Obj.mapFields (·.setIfInBounds 3 ((some L).elim Value.none fun f => rawInt f))) = h2
 have oth:∀ b,b ≠ T -> h2.get? b = s.heap.get? b:=fun b hb => hh ▸ Heap.get?_update_other _ _ (Ne.symm hb)
 have nrec:∀ b o,s.heap.get? b = some o -> (∀ vs,o.data ≠ .fields vs) -> b ≠ T:=fun b o hb hn q => by
  rw [q,hT] at hb; cases hb; exact hn ts hdT
 exact h _ ⟨a0,fun b o hbo => (oth b fun q => by rw [q,hnT] at hbo; cases hbo).trans (hkb b o hbo),
  hl.of_keeps fun b o hb hn => ⟨o,(oth b (nrec b o hb hn)).trans hb,rfl⟩,⟨oe,vs,T,_,_,(oth ea (Ne.symm hTe)).trans he,hcls,hd,h1,hnT,hTe,hh ▸ Heap.get?_update_self _ hT (Obj.isFreed_of_fields (Obj.data_mapFields hdT _)),Obj.data_mapFields hdT _,by simp [z3]⟩,fun b o hb hn => ⟨o.slots,(oth b (nrec b o hb hn)).trans hb⟩⟩
theorem note_any {Q:Unit -> Shared -> Prop} (hfr:A.frames = some (env :: outer)) (hf:env.frame = some L) (hkb:B.StaysIn s.heap) (hen:B.get? ea = none) (hl:s.heap.FunFrames B (env :: outer)) (t:TrAt B (env :: outer) ea c s.heap)
  (h:∀ h',Noted B (env :: outer) ea c (rawInt L) s.heap h' -> Q () { s with heap:=h' }):wpAny M A (noteFrame (.ref ea) env) Q E s:=by
 cases t with
 | made oe vs a0 he hc hd h0 h1 =>
  unfold noteFrame
  simp only [hf]
  refine wpAny_bind (wpAny_field he hd h1 ?_)
  rw [if_neg (by decide)]
  exact wpAny_entryW hfr hl hf he hkb hen hd (Array.getElem?_eq_some_iff.mp h1).1 h0 fun h' ⟨x1,x2,x3,x4⟩ => h h' ⟨a0,x1,x2,hc ▸ x3,x4⟩
 | way a0 t => exact wpAny_noteFrame_onW hfr hl hf t hkb hen fun h' ⟨x1,x2,x3,x4⟩ => h h' ⟨a0,x1,x2,x3,x4⟩
 | held a0 env' r L' el hf' t =>
  cases el
  rw [hf] at hf'; cases hf'
  exact wpAny_noteFrame_againW hf t (h s.heap ⟨a0,hkb,hl,t,Heap.UpToSlots.refl _⟩)
theorem back_any {l:List Env} {h:Heap} {Q:Value -> Shared -> Prop} (hf:env.frame = some L) (N:Noted B l ea c (rawInt L) h s.heap) (hq:∀ h',Noted B l ea c (rawInt L) h h' -> Q (.ref ea) { s with heap:=h' }):cameBackBy M A env Q (.ref ea) s:=by
 obtain ⟨a0,hkb,hl,t,u⟩:=N
 have key:wpAny M A (setFlight (.ref ea) (some L)) (fun _ s' => Q (.ref ea) s') Q s:=flight_set hkb hl t fun h' n => by
  obtain ⟨a1,n1,n2,n3,n4⟩:=n
  exact hq h' ⟨a1,n1,n2,n3,u.trans n4⟩
 obtain ⟨oe,vs,T,oT,ts,he,hcls,hd,h1,_⟩:=t
 show wpAny M A (do if (<- field (.ref ea) 1) == .none then unsupported "frame.own-activation:exception-without-traceback"
                    setFlight (.ref ea) env.frame) (fun _ s'' => Q (.ref ea) s'') Q s
 rw [hf]
 refine wpAny_bind (wpAny_field he hd h1 ?_)
 rw [if_neg (show ¬ ((Value.ref T == Value.none) = true) from by simp)]
 exact key
end
structure StOk (W:Wd):Prop where
 C:CtxOk W
 he:∃ r,W.b.envs = W.env :: r
 nd:W.ns.Nodup
theorem StOk.at {W:Wd} (S:StOk W) (O:Ms):StOk { W with O:=O }:=⟨S.C.sub _ _ O,S.he,S.nd⟩
section
variable {b:Hb} {W:Wd} {fr:Fr} {σ:St} {g:G} {ho h:Heap} {s:Shared} {B:Heap}
theorem near_step (sm:ho.UpToSlots h) (hs:B.StaysIn h) (hn:∀ a o,ho.get? a = some o -> B.get? a = some o \/ (g.free a /\ b.heap.get? a = none /\ FrObj o)) (R:Rel b ⟨σ,g,{ s with heap:=ho }⟩) :
  Step No ⟨σ,g,{ s with heap:=ho }⟩ ⟨σ,g,{ s with heap:=h }⟩ /\ Rel b ⟨σ,g,{ s with heap:=h }⟩:=by
 have near:∀ a o,ho.get? a = some o -> h.get? a = some o \/ (g.free a /\ b.heap.get? a = none /\ FrObj o /\ ∃ sl,h.get? a = some { o with slots:=sl }):=fun a o e => by
  rcases hn a o e with q | ⟨q1,q2,q3⟩
  ·exact .inl (hs a o q)
  ·obtain ⟨es,ep,hd⟩:=id q3
   exact .inr ⟨q1,q2,q3,sm a o e fun vs q => by rw [hd] at q; cases q⟩
 have S:StepH No g ho g h:=⟨Nat.le_refl _,fun _ _ => rfl,rfl,fun i x hi hx => .inl ⟨hi,hx⟩,fun a o e _ _ => (near a o e).imp id fun q => ⟨q.2.2.1,q.2.2.2⟩,fun a o e => (near a o e).elim (fun q => ⟨_,q⟩) fun q => q.2.2.2.elim fun _ q => ⟨_,q⟩,fun a o e hq _ => (near a o e).elim id fun q => (q.1.2 hq).elim⟩
 exact ⟨S,R.keep (s':={ s with heap:=h }) rfl S Plainly.none (fun i x o hi hx e => (near x o e).elim id fun q => (q.1.1 i hi hx).elim) (fun a o e e' => (near a o e').elim id fun q => by rw [show b.heap.get? a = some o from e] at q; cases q.2.1) fun _ _ q => q.elim⟩
theorem fly_loop {X:KX} {e:Value} {s':Shared} (S:StOk W) (z:EX W X e s'):notedBy W.b.M W.A W.env (cameBackBy W.b.M W.A W.env (EX W X)) e s':=by
 obtain ⟨c,fr,σ,g,ho,x,Z,f⟩:=z
 obtain ⟨l,ea,B,hfr,x1,x2,x3,x4,x5,x6⟩:=f
 obtain ⟨r,hr⟩:=S.he
 have hA:W.A.frames = some (W.env :: r):=by rw [S.C.B.frames,hr]
 rw [hA] at hfr; cases hfr
 obtain ⟨_,⟨L,_,hf,_⟩,_⟩:=id x3
 refine note_any hA hf x1 x2 x3 x4 fun h1 N => back_any (s:={ s' with heap:=h1 }) hf N fun h2 N2 => ?_
 obtain ⟨a0,z1,z2,z3,z4⟩:=N2
 exact ⟨c,fr,σ,g,ho,x,Z,_,ea,B,hA,z1,x2,z2,.held a0 W.env r L rfl hf z3,x5.trans z4,x6⟩
theorem TrAt.cls {l:List Env} {ea c:Addr} {h:Heap} (t:TrAt B l ea c h):∃ oe,h.get? ea = some oe /\ oe.cls = .ref c:=by
 cases t with
 | made oe _ _ he hc => exact ⟨oe,he,hc⟩
 | way _ t => exact t.there
 | held _ _ _ _ _ _ t => exact t.there
theorem ts_try {S:Sc} (St:StOk W) (HS:ScRel S W.env) {x:Str} {xp hp p rp cp:Pos} {k:Nat} {bd:List Stmt} {r:Bool} {c:Addr} {cb:CSs} (hd:notDebug x = true) (hx:S.sc.names.lookup x = some .globalImplicit) (hc:tabGl.lookup x = some (.cls c)) (hx2:tabExc.contains c = true)
  (H:TS W (execs bd W.env) (evSs cb)):TS W (exec (.Try bd [.ExceptHandler (some (.Name x xp)) none [.Return (some (.Constant (.bool r) k cp)) rp] hp] [] [] p) W.env) (evS (.try cb c (.cons (.ret (.const (.bool r))) .nil))):=fun P fr N m Z q => by
 refine wpAny_Try_except (wpAny_mono (H.run (P:=⟨P.ret,fun c' fr σ => c' = c /\ P.ret (.bool r) σ⟩) (N:=fun _ fr σ => N ⟨W.cx,P⟩ fr σ) Z q (Q:=fun f s => match f with | .next => SNext W (fun fr σ => N ⟨W.cx,P⟩ fr σ) s | .ret v => SRet W P.ret v s | _ => False)
  (fun fr m1 q1 Z1 => ⟨fr,m1.σ,m1.g,q1,Z1⟩) fun v v' fr m1 q1 e1 Z1 => ⟨v,fr,m1.σ,m1.g,q1,Z1,e1⟩) (fun f s1 z => ?_) fun e s1 z => ?_)
 ·cases f <;> first | exact wpAny_execs_nil z | exact z
 ·obtain ⟨c',fr1,σ',g',ho,⟨rfl,qr⟩,Z1,f⟩:=z
  obtain ⟨l,ea,B,hfr,x1,x2,x3,x4,x5,x6⟩:=f
  obtain ⟨rr,hrr⟩:=St.he
  have hA:W.A.frames = some (W.env :: rr):=by rw [St.C.B.frames,hrr]
  rw [hA] at hfr; cases hfr
  obtain ⟨_,⟨L,_,hf,_⟩,_⟩:=id x3
  refine note_any hA hf x1 x2 x3 x4 fun h1 N1 => ?_
  obtain ⟨a0,y1,y2,y3,y4⟩:=N1
  refine wpAny_setFlight_noneW (s:={ s1 with heap:=h1 }) y1 y2 y3 fun h2 z1 z2 z3 z4 => ?_
  have sm2:ho.UpToSlots h2:=(x5.trans y4).trans fun b o hb hn => ⟨o.slots,z4 b o hb hn⟩
  obtain ⟨S2,R2⟩:=near_step sm2 z1 x6 Z1.R
  refine wpAny_handleBy_cons (codeAny_handlers_test (load_global (b:=W.b) (s:={ s1 with heap:=h2 }) St.C.T.gl R2.base Z1.F.st hc (kind_same HS nofun hx) hd fun v hv => ?_)) (by intro q; cases q)
  cases hv
  obtain ⟨X,e1⟩:=(St.C.T.exc _ hx2).obj
  obtain ⟨oe,he,hcls⟩:=TrAt.cls (l:=W.env :: rr) (.way a0 z3)
  refine wpAny_excMatches_sub_self (h:=h2) (g:=s1.gens) (t:=s1.toks) (os:=s1.os) (St.C.T.inK.keeps R2.base _ _ e1) he hcls (by rfl) ?_
  refine codeAny_handlers_suite (wpAny_setFlight_noneW (s:={ s1 with heap:=h2 }) z1 z2 z3 fun h3 w1 w2 w3 w4 => ?_)
  obtain ⟨S3,R3⟩:=near_step (sm2.trans fun b o hb hn => ⟨o.slots,w4 b o hb hn⟩) w1 x6 Z1.R
  exact wpAny_execs_cons (wpAny_Return_some (PySem.wpAny_Constant_bool ⟨.bool r,fr1,σ',g',qr,Z1.step R3 S3 Z1.t,rfl⟩))
end
section
variable {W:Wd} {S:Sc}
structure Two (S:Sc) (ns:List Str) (x y:Str) (i j:Nat):Prop where
 hi:slot x ns = some i
 hj:slot y ns = some j
 hx:nameOk S x = true
 hy:nameOk S y = true
 ne:x ≠ y
theorem Two.nij {ns:List Str} {x y:Str} {i j:Nat} (T:Two S ns x y i j):i ≠ j:=fun q => T.ne (by have:=(slot_get T.hi).symm.trans (q ▸ slot_get T.hj); exact Option.some.inj this)
theorem setF_comm {fr:Fr}:∀ {i j:Nat} {a b:V},i ≠ j -> setF (setF fr i a) j b = setF (setF fr j b) i a:=by
 induction fr with
 | nil => exact fun _ => rfl
 | cons u r ih =>
  intro i j a b h
  cases i with
  | zero =>
   cases j with
   | zero => exact absurd rfl h
   | succ j => rfl
  | succ i =>
   cases j with
   | zero => rfl
   | succ j => exact congrArg (u :: ·) (ih fun q => h (congrArg _ q))
theorem store_two (HS:ScRel S W.env) (nd:W.ns.Nodup) {fr:Fr} {m:Ms} {x y:Str} {i j:Nat} {a c:V} {va vc:Value} (hi:slot x W.ns = some i) (hj:slot y W.ns = some j) (hx:nameOk S x = true) (hy:nameOk S y = true) (Z:At W fr m) (ea:VM m a va) (ec:VM m c vc)
  {P:Unit -> Shared -> Prop} {E:Value -> Shared -> Prop} (hP:∀ s',Step (OwnF W.env) m ⟨m.σ,m.g,s'⟩ -> At W (setF (setF fr i a) j c) ⟨m.σ,m.g,s'⟩ -> P () s'):wpAny W.b.M W.A (bindName W.env x va) (fun _ s1 => wpAny W.b.M W.A (bindName W.env y vc) P E s1) E m.s :=
 wpAny_bindName (store_name Z.R Z.F ea (nameOk_kind HS hx) fun s1 z1 => wpAny_bindName (store_name (m:=⟨m.σ,m.g,s1⟩) (z1.at Z nd hi).R (z1.at Z nd hi).F (z1.vr ec) (nameOk_kind HS hy) fun s2 z2 => hP s2 (z1.step.trans z2.step) (z2.at (z1.at Z nd hi) nd hj)))
theorem vrs_pair {h:Heap} {U:Addr -> Prop} {T:Nat -> Value -> Prop} {a c:V} {items:Array Value} (e:VRs h U T [a,c] items.toList):∃ x y,items = #[x,y] /\ VR h U T a x /\ VR h U T c y:=by
 obtain ⟨l⟩:=items
 obtain ⟨x,xs,e1,e2⟩:=e
 obtain ⟨y,ys,e3,e4⟩:=e2
 cases e4
 exact ⟨x,y,rfl,e1,e3⟩
theorem asg2_inv {i j:Nat} {v:V} {e:EE} {fr:Fr} {σ:St} {N:KN} (q:asg2K i j v e fr σ N):∃ a c,v = .tup [a,c] /\ N e (setF (setF fr i a) j c) σ:=by
 cases v with
 | tup l =>
  cases l with
  | nil => exact q.elim
  | cons a r =>
   cases r with
   | nil => exact q.elim
   | cons c r =>
    cases r with
    | nil => exact ⟨a,c,rfl,q⟩
    | cons _ _ => exact q.elim
 | _ => exact q.elim
theorem order_two {M:Model} {A:Around} {E:Value -> Shared -> Prop} {s:Shared} {f1 f2:Value -> Sem Unit} {a b:Value} {P:Unit -> Shared -> Prop} (h:wpAny M A (f1 a) (fun _ s1 => wpAny M A (f2 b) P E s1) E s):wpAny M A (assignInOrder [f1,f2] [a,b]) P E s:=by
 show wpAny M A (holding [b] (f1 a) >>= fun _ => holding [] (f2 b) >>= fun _ => pure ()) P E s
 exact wpAny_bind (wpAny_holding (wpAny_mono h (fun _ s1 z => wpAny_bind (wpAny_holding (wpAny_mono z (fun _ _ y => wpAny_pure y) fun _ _ y => y))) fun _ _ y => y))
theorem At.grown {fr:Fr} {m:Ms} (Z:At W fr m) {s':Shared} (io:(sio s') = (sio m.s)) (t:s'.toks = m.s.toks) (gr:Grown m.s.heap s'.heap):At W fr ⟨m.σ,m.g,s'⟩:=Z.step (m':=⟨m.σ,m.g,s'⟩) (Z.R.grown io gr) (StepH.grown gr) (t ▸ Z.t)
noncomputable def Tg (W:Wd) (t:Expr) (u:V -> EE -> Fr -> St -> KN -> Prop):Prop:=∀ (P:PX) (fr:Fr) (N:KN) (m:Ms) (v:V) (v':Value),At W fr m -> VM m v v' -> u v ⟨W.cx,P⟩ fr m.σ N -> ∀ {Q:Unit -> Shared -> Prop} {E:Value -> Shared -> Prop},
 (∀ fr' s',N ⟨W.cx,P⟩ fr' m.σ -> Step (OwnF W.env) m ⟨m.σ,m.g,s'⟩ -> At W fr' ⟨m.σ,m.g,s'⟩ -> Q () s') -> wpAny W.b.M W.A (assign t W.env v') Q E m.s
theorem tg_name (HS:ScRel S W.env) (nd:W.ns.Nodup) {x:Str} {p:Pos} {i:Nat} (hi:slot x W.ns = some i) (hx:nameOk S x = true):Tg W (.Name x p) fun v e fr σ N => N e (setF fr i v) σ:=fun P fr N m v v' Z ev q Q E h =>
 wpAny_assign_Name (store_name Z.R Z.F ev (nameOk_kind HS hx) fun s' z => h _ s' q z.step (z.at Z nd hi))
theorem tg_two (hh:W.A.handled = none) (HS:ScRel S W.env) (nd:W.ns.Nodup) {x y:Str} {i j k:Nat} {px py p:Pos} (T:Two S W.ns x y i j):Tg W (.Tuple [.Name x px,.Name y py] k p) fun v e fr σ N => asg2K i j v e fr σ N:=fun P fr N m v v' Z ev q Q E h => by
 obtain ⟨a,c,rfl,q⟩:=asg2_inv q
 obtain ⟨ta,items,hp,r⟩:=ev
 obtain ⟨va,vc,rfl,ea,ec⟩:=vrs_pair r
 refine wpAny_assign_Tuple hh hp.isTuple rfl rfl fun h1 hx => order_two ?_
 have gr:Grown m.s.heap h1:=fun b o e => hx b o (Nat.ne_of_lt (Heap.lt_size e)) e
 refine wpAny_bind (wpAny_standAt (wpAny_mono (store_two (m:=⟨m.σ,m.g,{ m.s with heap:=h1 }⟩) (P:=Q) (E:=E) HS nd T.hi T.hj T.hx T.hy (Z.grown rfl rfl gr) (VM.grown gr ea) (VM.grown gr ec) fun s' st z => h _ s' q (StepH.trans (.grown gr) st) z) (fun _ s z => wpAny_bind (wpAny_standAt z)) fun _ _ z => z))
noncomputable def swapV {e:Expr}:View e -> Bool
 | .tup vs _ _ => vs.all (foldedForSure 8) || !vs.all (constantsAlone 8)
 | .other _ => false
 | _ => true
theorem fm2 {α β:Type} {f:α -> Option β} {a b:α}:List.filterMap f [a,b] = (f a).toList ++ (f b).toList:=by
 rw [List.filterMap_cons,List.filterMap_cons,List.filterMap_nil]
 cases f a <;> cases f b <;> rfl
theorem if_list {α:Type} (c:Bool) (x:α):(if c = true then some x else none).toList = [] \/ (if c = true then some x else none).toList = [x]:=by
 cases c
 ·exact .inl rfl
 ·exact .inr rfl
theorem ite_ind {α:Type} {c:Prop} [Decidable c] {a b:α} (P:α -> Prop) (h1:P a) (h2:P b):P (if c then a else b):=by
 by_cases h:c
 ·rw [if_pos h]; exact h1
 ·rw [if_neg h]; exact h2
theorem swapped_cases {e:Expr} {x y:Str} {px py p:Pos} {kk:Nat} {env:Env} (hsw:swapV (view e) = true) :
  swappedStores [.Tuple [.Name x px,.Name y py] kk p] e env = pure none \/ swappedStores [.Tuple [.Name x px,.Name y py] kk p] e env = pure (some [x,y]):=by
 generalize view e = v at hsw
 cases v with
 | other => cases hsw
 | tup vs k2 p2 =>
  have hsw:(vs.all (foldedForSure 8) || !vs.all (constantsAlone 8)) = true:=hsw
  unfold swappedStores
  dsimp only
  by_cases c1:(!([Expr.Name x px,Expr.Name y py].length == 2 || [Expr.Name x px,Expr.Name y py].length == 3) || vs.length != [Expr.Name x px,Expr.Name y py].length || env.blockKind != .function) = true
  ·rw [if_pos c1]; exact .inl rfl
  ·rw [if_neg c1]
   refine (ite_ind (fun z => z = pure none \/ z = pure (some [x,y])) (.inl rfl) ?_)
   generalize hn:List.filterMap _ [Expr.Name x px,Expr.Name y py] = names
   have hn':names = (if (env.kindOf x == some .local && px.line == px.line) = true then some x else none).toList ++ (if (env.kindOf y == some .local && py.line == px.line) = true then some y else none).toList:=hn.symm.trans fm2
   have hc:names.length ≠ 2 \/ names = [x,y]:=by
    rcases if_list (env.kindOf x == some .local && px.line == px.line) x with h1 | h1 <;> rcases if_list (env.kindOf y == some .local && py.line == px.line) y with h2 | h2 <;> rw [h1,h2] at hn'
    ·exact .inl (by rw [hn']; decide)
    ·exact .inl (by rw [hn']; exact (by decide:1 ≠ 2))
    ·exact .inl (by rw [hn']; exact (by decide:1 ≠ 2))
    ·exact .inr hn'
   rcases hc with hc | rfl
   ·rw [if_pos (by exact Bool.or_eq_true_iff.mpr (.inl (bne_iff_ne.mpr hc)))]; exact .inl rfl
   ·refine ite_ind (fun z => z = pure none \/ z = pure (some [x,y])) (.inl rfl) ?_
    rcases Bool.or_eq_true_iff.mp hsw with hsw | hsw
    ·rw [if_pos hsw]; exact .inl rfl
    ·refine ite_ind (fun z => z = pure none \/ z = pure (some [x,y])) (.inl rfl) ?_
     rw [if_neg (by rw [(Bool.not_eq_true' _).mp hsw]; decide)]; exact .inr rfl
 | _ => exact .inl rfl
theorem ts_asg2 (C:CtxOk W) (HS:ScRel S W.env) (nd:W.ns.Nodup) {x y:Str} {i j k n:Nat} {px py tp p:Pos} {mk:Bool} {e:Expr} (T:Two S W.ns x y i j) (hsw:swapV (view e) = true) (H:TE W (eval e W.env) (compX n S W.ns (some mk) e)) :
  TS W (exec (.Assign [.Tuple [.Name x px,.Name y py] k tp] e p) W.env) (evS (.asg2 i j (compX n S W.ns (some mk) e))):=fun P fr N m Z q => by
 have q':ev (compX n S W.ns (some mk) e) ⟨W.cx,P⟩ fr m.σ fun v e fr σ => asg2K i j v e fr σ N:=q
 have hs:swapsWithSole [.Tuple [.Name x px,.Name y py] k tp] e p.line W.env = pure false:=swaps_no (l:=p.line) (env:=W.env) (t:=some (.Tuple [.Name x px,.Name y py] k tp)) (code_star q') fun _ _ _ _ => rfl
 rcases swapped_cases (env:=W.env) (x:=x) (y:=y) (px:=px) (py:=py) (p:=tp) (kk:=k) hsw with hw | hw
 ·exact Assign_Tuple (H.run Z q' fun v v' m1 q1 e1 S1 Z1 => tg_two C.B.handled HS nd T P fr N m1 v v' Z1 e1 q1 fun fr' s' q2 _ Z2 => ⟨fr',m1.σ,m1.g,q2,Z2⟩) hs hw
 ·refine Assign_Tuple_swapped (H.run Z q' fun v v' m1 q1 e1 S1 Z1 => ?_) hs hw
  obtain ⟨a,c,rfl,q2⟩:=asg2_inv q1
  obtain ⟨ta,items,hp,r⟩:=e1
  obtain ⟨va,vc,rfl,ea,ec⟩:=vrs_pair r
  refine PySem.wpAny_unpackItems_tuple (items:=#[va,vc]) C.B.handled hp.isTuple fun h1 hx => ?_
  have gr:Grown m1.s.heap h1:=fun b o e => hx b o (Nat.ne_of_lt (Heap.lt_size e)) e
  show wpAny W.b.M W.A (assignInOrder [bindName W.env y,bindName W.env x] [vc,va]) _ _ _
  exact order_two (store_two (m:=⟨m1.σ,m1.g,{ m1.s with heap:=h1 }⟩) HS nd T.hj T.hi T.hy T.hx (Z1.grown rfl rfl gr) (VM.grown gr ec) (VM.grown gr ea) fun s' _ z => ⟨_,m1.σ,m1.g,q2,setF_comm T.nij ▸ z⟩)
noncomputable def OwnT (t:Expr):Prop:=(∀ i v,letOwnedTupleGo t i v = pure ()) \/ ∃ es k p,t = .Tuple es k p
theorem owned_go {M:Model} {A:Around} {E:Value -> Shared -> Prop} {I:Addr} {m:Ms} {t:Expr} {v:Value} (ht:OwnT t) (e:ItObj m I) {P:Unit -> Shared -> Prop} (h:P () m.s):wpAny M A (letOwnedTupleGo t (.ref I) v) P E m.s:=by
 rcases ht with ht | ⟨es,k,p,rfl⟩
 ·rw [ht]; exact wpAny_pure h
 ·cases v with
  | ref a =>
   obtain ⟨o,T,h1,h2,⟨vs,h3⟩,_,hT⟩:=e
   show wpAny M A (do
    let o <- load I
    match o.cls,o.data with
    | .type n,.fields vs =>
     if (["enumerate","zip","dict_itemiterator","dict_reverseitemiterator","odict_iterator","itertools.zip_longest","itertools.pairwise"].contains n && vs[0]? == some (rawInt a)) = true then
      rule "for.unpacks-the-owned-tuple"
      updateField I 0 .none
    | _,_ => pure ()) P E m.s
   refine wpAny_bind (wpAny_load h1 ?_)
   rw [h2,h3]
   dsimp only
   rw [hT]
   exact wpAny_pure h
  | _ => exact wpAny_pure h
theorem ts_for (SO:StOk W) {t it:Expr} {b:List Stmt} {p:Pos} {ci:CE} {cb:CSs} {u:V -> EE -> Fr -> St -> KN -> Prop} (ht:OwnT t) (hset:starless it = true) (Hit:TE W (eval it W.env) ci) (HT:Tg W t u) (Hb:∀ O,TS { W with O:=O } (execs b W.env) (evSs cb)) :
  TS W (exec (.For t it b [] p) W.env) fun e fr σ N => ev ci e fr σ fun src e fr σ => ElO (itemsOf σ src) e fr σ fun items e fr σ => forP (keepB src items) (fun x e fr σ N => u x e fr σ fun e fr σ => evSs cb e fr σ N) items e fr σ N:=fun P fr N m Z q => by
 refine wpAny_For (Hit.run Z q fun src xv m1 q1 ev S1 Z1 => ?_) (set_pure hset)
 obtain ⟨items,i1,q1⟩:=q1
 refine wpAny_with_toks Z1.t (iter_start Z1.R ev i1 fun oI tk it0 htk => ?_)
 have I1:=get_size m1.s.heap
 have gr:Grown m1.s.heap (m1.s.heap.push oI):=grown_push
 have Z2:At W fr ⟨m1.σ,m1.g,{ m1.s with heap:=m1.s.heap.push oI,toks:=tk }⟩:=Z1.step (Z1.R.grown rfl gr) (StepH.grown gr) htk
 have u1:=Z1.R.none_unow I1
 have f1:¬ W.O.g.forb m1.s.heap.objs.size:=by rw [<- Z1.S.forb]; exact Z1.R.none_forb I1
 have I0:=Z1.R.hb_none I1
 have IO:=Z1.S.new_none I1
 have eI:¬ OwnF W.env m1.s.heap.objs.size:=fun q => by obtain ⟨o,z⟩:=Z1.F.own_some q; rw [I1] at z; cases z
 generalize m1.s.heap.objs.size = I at *
 generalize hG:(fun (i:Nat) (fr:Fr) (σ:St) => forP (keepB src items) (fun x e fr σ N => u x e fr σ fun e fr σ => evSs cb e fr σ N) (items.drop i) ⟨W.cx,P⟩ fr σ N) = Go
 have hg:∀ i fr σ,Go i fr σ ↔ forP (keepB src items) (fun x e fr σ N => u x e fr σ fun e fr σ => evSs cb e fr σ N) (items.drop i) ⟨W.cx,P⟩ fr σ N:=fun _ _ _ => hG ▸ Iff.rfl
 clear hG
 refine codeAny_forLoop_any (LoopI items.length Go fun fr i m => At W fr m /\ IterAt m I i items src /\ m.g.unow I) ?_ items.length ⟨0,fr,⟨m1.σ,m1.g,{ m1.s with heap:=m1.s.heap.push oI,toks:=tk }⟩,rfl,rfl,Nat.zero_le _,(hg _ _ _).mpr q1,Z2,it0,u1⟩
 clear Z2 it0 q1 u1
 rintro n _ ⟨i,fr,m,rfl,rfl,hi,go,Z,iti,ui⟩
 have go:=(hg _ _ _).mp go
 have fI:¬ m.g.forb I:=by rw [Z.S.forb]; exact f1
 have at_:∀ {s'},Tch W.b m I s' -> 1 <= s'.toks -> At W fr ⟨m.σ,m.g,s'⟩:=fun {s'} T t => ⟨T.rel Z.R,T.fr eI Z.F,t,Z.S.touch T.but IO⟩
 cases hv:items[i]? with
 | none =>
  rw [List.drop_eq_nil_of_le (List.getElem?_eq_none_iff.mp hv)] at go
  exact wpAny_with_toks Z.t (iter_done SO.C.B.handled Z.R iti ui I0 fI go.1 hv fun s' T t => wpAny_execs_nil ⟨fr,m.σ,m.g,go.2,at_ T t⟩)
 | some v =>
  obtain ⟨hi',hv'⟩:=List.getElem?_eq_some_iff.mp hv
  rw [List.drop_eq_getElem_cons hi',hv'] at go
  refine wpAny_with_toks Z.t (iter_item Z.R iti ui I0 fI go.1 hv fun v' s' T ew it' t => ?_)
  have Z1:=at_ T t
  refine owned_go (m:=⟨m.σ,m.g,s'⟩) ht it'.obj (HT ⟨P.ret,noX⟩ fr _ ⟨m.σ,m.g,s'⟩ v v' Z1 ew go.2 fun fr2 s2 q2 st2 Z2 => ?_)
  have it2:=it'.step Z1.R st2 Z1.F.plainly ui eI
  refine wpAny_mono ((Hb ⟨m.σ,m.g,s2⟩).run (W:={ W with O:=⟨m.σ,m.g,s2⟩ }) (P:=⟨P.ret,noX⟩) (m:=⟨m.σ,m.g,s2⟩) ⟨Z2.R,Z2.F,Z2.t,StepH.refl⟩ q2 (Q:=fun f s => match f with
   | .next => ∃ m,m < items.length - i /\ LoopI items.length Go (fun fr i m => At W fr m /\ IterAt m I i items src /\ m.g.unow I) m s
   | .ret v => SRet W P.ret v s
   | _ => False) (fun fr3 m3 q3 Z3 => ?_) fun v v' fr3 m3 q3 e3 Z3 => ⟨v,fr3,m3.σ,m3.g,q3,⟨Z3.R,Z3.F,Z3.t,Z2.S.trans Z3.S⟩,e3⟩) (fun f s z => by cases f <;> first | exact z | exact z.elim) fun e s' z => EX.no (fun _ _ _ => id) z
  exact ⟨items.length - (i + 1),Nat.sub_lt_sub_left hi' (Nat.lt_succ_self i),i + 1,fr3,m3,rfl,rfl,hi',(hg _ _ _).mpr q3,⟨Z3.R,Z3.F,Z3.t,Z2.S.trans Z3.S⟩,it2.step Z2.R Z3.S Z2.F.plainly ui eI,it2.obj.some.elim fun o e => Z3.S.unow e ui⟩
inductive WhileI (W:Wd) (Go:Nat -> Fr -> St -> Prop) (n:Nat) (s:Shared):Prop | mk (fr:Fr) (m:Ms) (e:m.s = s) (q:Go n fr m.σ) (Z:At W fr m)
theorem ts_while (SO:StOk W) {t:Expr} {b:List Stmt} {p:Pos} {ct:CE} {cb:CSs} (Ht:TB W (isTrue t W.env (eval t W.env)) ct) (Hb:TS W (execs b W.env) (evSs cb)):TS W (exec (.While t b [] p) W.env) (evS (.while ct cb)):=fun P fr N m Z q => by
 refine wpAny_While (codeAny_whileLoop (WhileI W fun n fr σ => whileP (ev ct) (evSs cb) n ⟨W.cx,P⟩ fr σ N) ?_ W.cx.wf ⟨fr,m,rfl,q,Z⟩)
 clear q Z m fr
 rintro n _ ⟨fr,m,rfl,q,Z⟩
 cases n with
 | zero => exact q.elim
 | succ n =>
  refine wpAny_mono (Ht.run Z (K:=fun c e fr σ => Br c (evSs cb e fr σ fun e fr σ => whileP (ev ct) (evSs cb) n e fr σ N) (N e fr σ)) q (Q:=fun c s => ∃ m1,m1.s = s /\ Br c (evSs cb ⟨W.cx,P⟩ fr m1.σ fun e fr σ => whileP (ev ct) (evSs cb) n e fr σ N) (N ⟨W.cx,P⟩ fr m1.σ) /\ At W fr m1) fun c m1 q1 S1 Z1 => ⟨m1,rfl,q1,Z1⟩) (fun c s z => ?_) fun _ _ z => fly_loop SO z
  obtain ⟨m1,rfl,q1,Z1⟩:=z
  rcases q1.run with ⟨rfl,q2⟩ | ⟨rfl,q2⟩
  ·rw [if_pos rfl]
   refine wpAny_mono (Hb.run Z1 q2 (Q:=fun f s => match f with
    | .next => ∃ k,k < n + 1 /\ WhileI W (fun n fr σ => whileP (ev ct) (evSs cb) n ⟨W.cx,P⟩ fr σ N) k s
    | .ret v => SRet W P.ret v s
    | _ => False) (fun fr m2 q2 Z2 => ⟨n,Nat.lt_succ_self n,fr,m2,rfl,q2,Z2⟩) fun v v' fr m2 q2 e2 Z2 => ⟨v,fr,m2.σ,m2.g,q2,Z2,e2⟩) (fun f s z => by cases f <;> first | exact z | exact z.elim) fun _ _ z => fly_loop SO z
  ·rw [if_neg (by decide)]
   exact wpAny_execs_nil ⟨fr,m1.σ,m1.g,q2,Z1⟩
end
section
open Builtin Builtin.ObjectAttr
section
variable {b:Hb} {A:Around} {E:Value -> Shared -> Prop} {s:Shared} {C:Addr} {x:ExcHd}
noncomputable def excO (C:Addr) (dx:Option Addr) (t:Addr):Obj:={ cls:=.ref C,dict:=dx,data:=.fields #[.ref t,.none,.none,.none,.bool false,.none] }
theorem has_exc {Ma:Addr}:(Value.ref C :: lineOf Ma).contains (.type "Exception") = true:=by rfl
theorem has_base {Ma:Addr}:(Value.ref C :: lineOf Ma).contains (.type "BaseException") = true:=by rfl
theorem has_no1 {Ma:Addr}:(Value.ref C :: lineOf Ma).contains (.type "AttributeError") = false:=by rfl
theorem has_no2 {Ma:Addr}:(Value.ref C :: lineOf Ma).contains (.type "NameError") = false:=by rfl
theorem has_self {Ma:Addr}:(Value.ref C :: lineOf Ma).contains (.ref C) = true:=by show ((Value.ref C == Value.ref C) || _) = true; rw [beq_self_eq_true]; rfl
theorem own_new {v:Value} {R:Result -> Shared -> Prop} (hC:s.heap.get? C = some (x.obj C)) (hq:R (.ok (.ret (.ref (s.heap.objs.size + 1)))) { s with heap:=(s.heap.push { cls:=.type "tuple",data:=.seq [v].toArray }).push (excO C none s.heap.objs.size) }) :
  codeAny b.M A (.builtin "Exception.__new__" ⟨[.ref C,v],[]⟩) R s:=by
 obtain ⟨h,g,d,t,os⟩:=s
 have F:=PySem.F.excBase_Exception
 have hends:=F.ends
 have hcB:=has_exc (C:=C) (Ma:=x.Ma)
 have hcA:=has_no1 (C:=C) (Ma:=x.Ma)
 have hcN:=has_no2 (C:=C) (Ma:=x.Ma)
 refine codeAny_builtinAt F.entry ?_
 unfold Builtin.«BaseException.__new__»
 refine PySem.wpAt_bind ?_
 show PySem.wpAt _ _ _ (stack >>= _) _ _ _
 refine PySem.wpAt_bind (PySem.wpAt_stack fun p below => PySem.wpAt_of_wpAny ?_)
 wp_walk
 refine PySem.wpAt_of_wpAny ?_
 rw [F.owner]
 repeat (first | with_reducible refine wpAny_madeHere_exc F.canon hC ?_ | with_reducible refine wpAny_loadPart_at hC ?_ | (with_reducible refine wpAny_isSubtype_exc hC ?_; first | rw [hcB] | rw [hcA] | rw [hcN]) | wp_step)
 show R _ _
 rw [Heap.size_push]
 exact hq
theorem own_init {e t0:Addr} {v:Value} {Q:Value -> Shared -> Prop} (hC:s.heap.get? C = some (x.obj C)) (he:s.heap.get? e = some (excO C none t0))
  (hq:∀ h' t1,But e s.heap h' -> h'.get? e = some (excO C none t1) -> Q .none { s with heap:=h' }):wpAny b.M A (call (.builtin "Exception.__init__") [.ref e,v]) Q E s:=by
 obtain ⟨h,g,d,t,os⟩:=s
 have F:=PySem.F.excBase_Exception
 have hcB:=has_exc (C:=C) (Ma:=x.Ma)
 refine wpAny_call (codeAny_call_builtin F.init.plain F.initEntry ?_)
 ·have hshort:=F.noStar
  unfold excO at he
  simp only [checkBuiltinCall,F.initKind,F.initSplit,F.initRow]
  repeat (first | (with_reducible refine wpAny_loadPart_at he ?_) | with_reducible refine wpAny_loadPart_at hC ?_ | (with_reducible refine wpAny_isSubtype_exc hC ?_; rw [hcB]) | wp_step)
  refine hq _ h.objs.size (fun b o hb eb => ?_) ?_
  ·rw [Heap.get?_update_other _ _ (Ne.symm hb)]
   exact Heap.get?_push_of_some _ eb
  ·rw [Heap.get?_update_self _ (Heap.get?_push_of_some _ he) rfl]
   rfl
theorem own_type_call {K:Frag} {fI:Addr} {v:Value} {Q:Fin -> Shared -> Prop} (X:K.In s.heap) (hC:s.heap.get? C = some (x.obj C)) (hn:∀ S v,peek K S (checkBuiltinCall "Exception.__new__" ⟨[.ref C,v],[]⟩) = some ()) (hi:findIn K (.ref C) "__init__" = some (some (.ref fI))) (hf:typeIn K (.ref fI) = some (.type "function"))
  (hq:∀ h' e t0,Grown s.heap h' -> s.heap.get? e = none -> h'.get? e = some (excO C none t0) -> wpAny b.M A (call (.ref fI) [.ref e,v]) (fun r s' => r = .none /\ Q (.done (.ret (.ref e))) s') E { s with heap:=h' }) :
  wpAny b.M A (Builtin.«type.__call__» ⟨[.ref C,v],[]⟩) Q E s:=by
 obtain ⟨h,g,d,t,os⟩:=s
 have F:=PySem.F.excBase_Exception
 repeat (first | with_reducible refine wpAny_loadPart_at hC ?_ | with_reducible refine wpAny_madeBy_exc hC ?_ | wp_step)
 refine codeAny_call_builtin_code (Code.quiet_builtin _ F.quiet) ((Looks.of_peek X (hn _ v)).here ?_)
 refine own_new hC ?_
 show wpAny _ _ _ _ _ _
 have k1:Grown h ((h.push { cls:=.type "tuple",data:=.seq [v].toArray }).push (excO C none h.objs.size)):=fun b o e => Heap.get?_push_of_some _ (Heap.get?_push_of_some _ e)
 have hget:((h.push { cls:=.type "tuple",data:=.seq [v].toArray }).push (excO C none h.objs.size)).get? (h.objs.size + 1) = some (excO C none h.objs.size):=by heap_get
 have hn:h.get? (h.objs.size + 1) = none:=none_ge (Nat.le_succ _)
 generalize h.objs.size + 1 = e at hget hn ⊢
 generalize (h.push { cls:=.type "tuple",data:=.seq [v].toArray }).push (excO C none h.objs.size) = h1 at k1 hget ⊢
 have hC₁:=k1 _ _ hC
 have X₁:=X.keeps k1
 have hcC:=has_self (C:=C) (Ma:=x.Ma)
 unfold excO at hget
 unfold isInstance
 repeat (first | with_reducible refine wpAny_loadPart_at hget ?_ | (with_reducible refine wpAny_isSubtype_exc hC₁ ?_; rw [hcC]) | wp_step)
 show wpAny _ _ (typeLookup (.ref C) _) _ _ _
 refine (looks_findIn X₁ hi).at ?_
 refine wpAny_holding (wpAny_bind ((bind_fn X₁ _ hf).at (wpAny_bind (wpAny_mono (hq h1 e h.objs.size k1 hn hget) (fun r s' hr => ?_) fun _ _ x => x))))
 obtain ⟨rfl,hQ⟩:=hr
 wp_walk
 exact hQ
theorem own_call {K:Frag} {fI:Addr} {v:Value} {Q:Value -> Shared -> Prop} (X:K.In s.heap) (hC:s.heap.get? C = some (x.obj C)) (hn:∀ S v,peek K S (checkBuiltinCall "Exception.__new__" ⟨[.ref C,v],[]⟩) = some ()) (hi:findIn K (.ref C) "__init__" = some (some (.ref fI))) (hf:typeIn K (.ref fI) = some (.type "function"))
  (hq:∀ h' e t0,Grown s.heap h' -> s.heap.get? e = none -> h'.get? e = some (excO C none t0) -> wpAny b.M (A.under (.builtin "type.__call__" ⟨[.ref C,v],[]⟩)) (call (.ref fI) [.ref e,v]) (fun r s' => r = .none /\ Q (.ref e) s') E { s with heap:=h' }) :
  wpAny b.M A (call (.ref C) [v]) Q E s:=by
 have f1:=tc_lookup
 have f2:=tc_bind (.ref C)
 have hT:s.TypeIs (.ref C) "type":=⟨_,hC,rfl⟩
 refine wpAny_call (codeAny_of_tree ?_)
 show wpAny _ _ (callAny (.ref C) _) _ _ _
 obtain ⟨h,g,d,t,os⟩:=s
 repeat (any_goals (first | assumption | with_reducible refine wpAny_loadPart_at hC ?_ | wp_step))
 refine ⟨rfl,?_⟩
 exact codeAny_call_builtin_at (Code.quiet_builtin _ (by decide +kernel)) entry_typeCall (wpAny_check_type_call_sub hC (own_type_call (s:=⟨h,g,d,t,os⟩) X hC hn hi hf fun h' e t0 a b c => hq h' e t0 a b c))
end
end
section
open Builtin Builtin.ObjectAttr
section
variable {b:Hb} {A:Around} {E:Value -> Shared -> Prop} {s:Shared} {C:Addr} {x:ExcHd}
theorem own_setattr {K:Frag} {e t1:Addr} {v:Value} {Q:Unit -> Shared -> Prop} (X:K.In s.heap) (N:ExcOk K C) (he:s.heap.get? e = some (excO C none t1))
  (hq:∀ h' tk dx,But e s.heap h' -> h'.get? e = some (excO C (some dx) t1) -> s.toks <= tk -> Q () { s with heap:=h',toks:=tk }):wpAny b.M A (setAttr (.ref e) "message" v) Q E s:=by
 obtain ⟨x,ec⟩:=N.obj
 have hC:=X _ _ ec
 obtain ⟨h,g,d,t,os⟩:=s
 have I:W.InstAt h e (excO C none t1) C none:=⟨he,rfl,rfl,trivial⟩
 refine set_plain (s:=⟨h,g,d,t,os⟩) X I N.sa ?_
 have SF:=PySem.F.store_object
 have LC:Looks b.M h (mroOf (.ref C)) (.ref C :: lineOf x.Ma):=(Looks.ld (part:=none) hC).andThen .now
 have sub:Looks b.M h (isInstance (.ref e) (.type "object")) true:=I.type.andThen (looks_mroIn X N.top)
 refine codeAny_call_builtin SF.slot.plain SF.entry (@check_slot b.M _ _ _ "object.__setattr__" "object" "__setattr__" (.ref e) [.str "message" t,v] [] _ SF.kind SF.split sub (SF.args (.ref e) (.str "message" t) v) ?_)
 rw [osa_eq,refuse_eq]
 refine wpAny_bind (wpAny_bind (I.type.at (wpAny_bind (LC.at ?_))))
 rw [refuseLoop_ref,refuseLoop_ref,PySem.F.store_Exception.passes]
 refine wpAny_pure (wpAny_bind (I.type.at (wpAny_bind ((looks_findIn X N.msg).at (wpAny_bind (Looks.now.at ?_))))))
 show wpAny _ _ (storeInOwnDict _ _ _ _ _ _) _ _ _
 have hx₁:(h.push { cls:=.type "dict",data:=.dict #[] }).get? e = some (excO C none t1):=Heap.get?_push_of_some _ he
 have hxs:e ≠ h.objs.size:=Nat.ne_of_lt (Heap.lt_size he)
 have hgd:((h.push { cls:=.type "dict",data:=.dict #[] }).update e fun o => { cls:=o.cls,dict:=some h.objs.size,data:=o.data,slots:=o.slots }).get? h.objs.size = some { cls:=.type "dict",data:=.dict #[] } :=
  (Heap.get?_update_ne _ _ _ _ hxs.symm).trans (Heap.get?_push_at rfl rfl)
 have hge:((h.push { cls:=.type "dict",data:=.dict #[] }).update e fun o => { cls:=o.cls,dict:=some h.objs.size,data:=o.data,slots:=o.slots }).get? e = some (excO C (some h.objs.size) t1):=Heap.get?_update_self _ hx₁ rfl
 have kp:But e h ((h.push { cls:=.type "dict",data:=.dict #[] }).update e fun o => { cls:=o.cls,dict:=some h.objs.size,data:=o.data,slots:=o.slots }):=fun b o hb q => (Heap.get?_update_ne _ _ _ _ hb).trans (Heap.get?_push_of_some _ q)
 have fin:wpAny b.M A.in1 (storeInDict h.objs.size (.str "message" t) "message" v) (fun fin s' => match fin with
   | .done f => (match (.ok f:Result) with | .ok (.ret _) => Q () s' | .ok _ => False | .error e => E e s')
   | .again c' => c'.quiet = true /\ codeAny b.M A c' (fun r s' => match r with | .ok (.ret _) => Q () s' | .ok _ => False | .error e => E e s') s')
   (fun e s' => match (.error e:Result) with | .ok (.ret _) => Q () s' | .ok _ => False | .error e => E e s')
   ⟨(h.push { cls:=.type "dict",data:=.dict #[] }).update e fun o => { cls:=o.cls,dict:=some h.objs.size,data:=o.data,slots:=o.slots },g,d,t + 1,os⟩:=by
  generalize (h.push { cls:=.type "dict",data:=.dict #[] }).update e (fun o => { cls:=o.cls,dict:=some h.objs.size,data:=o.data,slots:=o.slots }) = h1 at hgd hge kp ⊢
  have hnd:h1.Ns h.objs.size (fun _ => none):=⟨_,#[],_,hgd,rfl,fun e he => absurd he (by simp),fun _ => rfl⟩
  unfold storeInDict newKeyGuard
  refine wpAny_bind (wpAny_pure (wpAny_bind (wpAny_nsSet1 (Heap.Ns1.of_empty hnd) fun h' hn' hs => ?_)))
  obtain ⟨oD,esD,epD,hoD,hdD,hcD⟩:=hn'.count (Within.cons "message" v Within.nil)
  refine wpAny_bind (wpAny_lookBehind hoD (by rw [hdD]; exact pastItsLine_dict (Nat.le_trans hcD (Nat.le_add_left 1 _))) ?_)
  exact wpAny_pure (hq h' _ h.objs.size (fun b ob hbx hb => (hs.2 b (Nat.ne_of_lt (Heap.lt_size hb))).trans (kp b ob hbx hb)) ((hs.2 e hxs).trans hge) (Nat.le_succ_of_le (Nat.le_succ _)))
 unfold storeInOwnDict
 unfold excO at he
 repeat (first | exact fin | (with_reducible refine wpAny_loadPart_at he ?_) | (with_reducible refine wpAny_loadPart_at hC ?_) | wp_step)
theorem exc_meta:typeOf (.type "Exception") = pure (.type "type"):=by kernel_rfl
theorem exc_stub:Manifest.isStub "Exception" = false:=by decide +kernel
theorem exc_find {K:Frag}:findCls K (.type "Exception") (.type "type") "__init__" = some (.val (.builtin "Exception.__init__")):=by kernel_rfl
end
end
theorem bind_out {kd:Str -> Option NameKind} {x:Str} {binds:List (Str × Value)}:∀ {m c:Str -> Option Value},x ∉ binds.map (·.1) -> bindL kd binds m x = m x /\ bindC kd binds c x = c x:=by
 induction binds with
 | nil => exact fun _ => ⟨rfl,rfl⟩
 | cons p r ih =>
  intro m c hn
  have hx:x ≠ p.1:=fun q => hn (q ▸ .head _)
  obtain ⟨h1,h2⟩:=ih (m:=if kd p.1 = some .local then fun y => if y = p.1 then some p.2 else m y else m) (c:=if kd p.1 = some .local then c else fun y => if y = p.1 then some p.2 else c y) fun q => hn (.tail _ q)
  refine ⟨h1.trans ?_,h2.trans ?_⟩ <;> by_cases hk:kd p.1 = some .local
  ·rw [if_pos hk]; exact if_neg hx
  ·rw [if_neg hk]
  ·rw [if_pos hk]
  ·rw [if_neg hk]; exact if_neg hx
theorem bind_get {kd:Str -> Option NameKind} {x:Str} {v:Value} {binds:List (Str × Value)}:∀ {m c:Str -> Option Value},(binds.map (·.1)).Nodup -> binds.lookup x = some v -> (kd x = some .local -> bindL kd binds m x = some v) /\ (kd x ≠ some .local -> bindC kd binds c x = some v):=by
 induction binds with
 | nil => exact fun _ q => nomatch q
 | cons p r ih =>
  intro m c nd q
  rw [List.map_cons,List.nodup_cons] at nd
  rw [show p :: r = (p.1,p.2) :: r from rfl,lookup_head] at q
  by_cases z:x = p.1
  ·rw [if_pos z] at q
   cases q
   obtain ⟨h1,h2⟩:=bind_out (kd:=kd) (m:=if kd p.1 = some .local then fun y => if y = p.1 then some p.2 else m y else m) (c:=if kd p.1 = some .local then c else fun y => if y = p.1 then some p.2 else c y) (z ▸ nd.1:x ∉ r.map (·.1))
   exact ⟨fun hk => h1.trans (by rw [if_pos (z ▸ hk),if_pos z]),fun hk => h2.trans (by rw [if_neg (z ▸ hk),if_pos z])⟩
  ·rw [if_neg z] at q
   exact ih nd.2 q
inductive Born (c e:Addr) (s s':Shared):Prop
 | mk (t:1 <= s'.toks) (io:(sio s') = (sio s)) (k:But e s.heap s'.heap) (t1 dx:Addr) (g:s'.heap.get? e = some (excO c (some dx) t1))
section
variable {W:Wd} {A:Around} {E:Value -> Shared -> Prop} {s:Shared}
set_option maxHeartbeats 2000000 in
theorem init_fn {b:Hb} {K:Frag} (T:TabOk K b.heap) {c f e t0:Addr} (N:ExcOk K c) (I:InitFn K f) (hdep:A.depth < recursionLimit) (base:Grown b.heap s.heap) (he0:b.heap.get? e = none) (ht:1 <= s.toks) (he:s.heap.get? e = some (excO c none t0)) {v:Value} :
  wpAny b.M A (call (.ref f) [.ref e,v]) (fun r s' => r = .none /\ Born c e s s') E s:=by
 obtain ⟨fd,FO,pb,sn,a1,a2,a3,a4,a5,a6,a7,a8,a9,a10,ep,bd⟩:=I
 have hK:K.In s.heap:=T.inK.keeps base
 have ndp:([("self":Str),("message":Str)]).Nodup:=by decide
 obtain ⟨o,e1,e2⟩:=FO.ex
 refine wpAny_call (codeAny_call_function hdep (hK _ _ e1) e2 FO.co FO.gen bd (codeRec_of hK FO.code) ?_)
 refine pb.binds (s:=s) (r:=[.ref e,v]) hK rfl _ _ _ _ ?_
 rw [FO.clos]
 refine wpAny_with_toks ht (wpAny_newFunctionEnv_cells FO.kind (fun y hy => ?_) (fun env hv s1 x tk1 => ?_))
 ·rw [sn]
  cases hy with
  | head => exact .inl rfl
  | tail _ hy =>
   cases hy with
   | head => exact .inl rfl
   | tail _ hy => cases hy
 refine ⟨(T.lim.keeps base).keeps x.toInCall.keep,codeAny_func ?_⟩
 have kd:∀ y,env.kindOf y = fd.scope.names.lookup y:=fun y => by rw [hv]; rfl
 have hk:env.scope.kind = .function:=by rw [hv]; exact FO.kind
 have k1:env.kindOf "self" = some .local:=by rw [kd,sn]; rfl
 have k2:env.kindOf "message" = some .local:=by rw [kd,sn]; rfl
 have k3:env.kindOf "Exception" = some .globalImplicit:=by rw [kd,sn]; rfl
 have hL:env.locals = s.heap.objs.size:=by rw [hv]; rfl
 have hG:env.globals = mainGlobals:=by rw [hv]; exact FO.glob
 have hB:env.builtins = builtinsNs:=by rw [hv]; exact FO.bi
 clear hv
 have gr:Grown s.heap s1.heap:=x.toInCall.keep
 have hio:(sio s1) = (sio s):=by obtain ⟨h',tk,e⟩:=x.toInCall.same; rw [e]
 have heL:e ≠ env.locals:=by rw [hL]; exact Nat.ne_of_lt (Heap.lt_size he)
 have m1:=(bind_get (kd:=env.kindOf) (m:=fun _ => none) (c:=fun _ => none) (binds:=([("self":Str),("message":Str)]).zip [.ref e,v]) ndp (show _ = some (Value.ref e) from rfl)).1 k1
 have m2:=(bind_get (kd:=env.kindOf) (m:=fun _ => none) (c:=fun _ => none) (binds:=([("self":Str),("message":Str)]).zip [.ref e,v]) ndp (show List.lookup ("message":Str) _ = some v from rfl)).1 k2
 have nsL:=x.toInCall.ns
 generalize bindL env.kindOf (([("self":Str),("message":Str)]).zip [.ref e,v]) (fun _ => none) = mL at m1 m2 nsL
 clear x
 obtain ⟨X,ec⟩:=N.obj
 have X1:K.In s1.heap:=hK.keeps gr
 obtain ⟨mg,mb,n1,n2,_,hgx⟩:=T.gl
 have n1':s1.heap.Ns env.globals mg:=by rw [hG]; exact n1.at' fun o e => gr _ _ (base _ o e)
 have n2':s1.heap.Ns env.builtins mb:=by rw [hB]; exact n2.at' fun o e => gr _ _ (base _ o e)
 refine wpAny_mono (Q:=fun fl s2 => fl = .next /\ Born c e s s2) (E:=fun _ _ => False) ?_ (fun fl s2 z => (by obtain ⟨rfl,z⟩:=z; exact ⟨rfl,z⟩)) fun _ _ z => z.elim
 have inter:interactive env = false:=by unfold interactive; rw [hk]; rfl
 have loadL:∀ {s':Shared} {y:Str} {u:Value} {pos:Pos} {P:Value -> Shared -> Prop} {E':Value -> Shared -> Prop},(y == ("__debug__":Str)) = false -> env.kindOf y = some .local -> s'.heap.Ns env.locals mL -> mL y = some u -> P u s' -> wpAny b.M (A.deeper env) (eval (.Name y pos) env) P E' s' :=
  fun hy hky hns hm hP => wpAny_Name (wpAny_loadName_local hk hky hns hm hP) hy
 have dS:(("self":Str) == ("__debug__":Str)) = false:=by decide
 have dM:(("message":Str) == ("__debug__":Str)) = false:=by decide
 refine wpAny_execs_cons (wpAny_Expr_any ?_ inter (swaps_none rfl))
 refine meth_open (by rfl) ep (by show 2 < 29; decide) (by rfl) (by rfl) (Name_function_global hk k3 ?_ (by decide))
 have go:∀ (pl:Sem Bool),wpAny b.M (A.deeper env) (getMethod (.type "Exception") "__init__" pl) (fun fx s₂ => wpAny b.M (A.deeper env) (callWith a5 fx.1 fx.2 (backTo a5 (starEach [.Name "self" a3,.Name "message" a4] env)) (backToKw a5 (keywordEach [] env)))
   (fun _ s2 => wpAny b.M (A.deeper env) (execs [.Assign [.Attribute (.Name "self" a7) "message" a8] (.Name "message" a9) a10] env) (fun fl s2 => fl = .next /\ Born c e s s2) (fun _ _ => False) s2) (fun _ _ => False) s₂) (fun _ _ => False) s1:=fun pl => by
  have F1:PyProof.Rows.Fr s.heap env.locals s1.heap _:=⟨nsL,gr,by rw [hL]; exact Nat.le_refl _⟩
  refine method_type F1 hK exc_meta exc_stub exc_find rfl ?_
  show wpAny b.M (A.deeper env) (callWith a5 (.builtin "Exception.__init__") [] (backTo a5 (starEach [.Name "self" a3,.Name "message" a4] env)) (backToKw a5 (keywordEach [] env))) _ _ _
  refine callWith_of (P:=fun _ => True) (by rfl) (fun h _ => ⟨.machine,.inr (.inl rfl),Looks.of_pure rfl⟩) (evalArgs_both (by rfl) (by rfl) ?_)
  refine wpAny_items_cons (loadL (s':={ s1 with toks:=s1.toks + 1 }) dS k1 nsL m1 ?_) (star_cons (by rfl))
  refine wpAny_items_cons (loadL (s':={ s1 with toks:=s1.toks + 1 }) dM k2 nsL m2 ?_) (star_cons (by rfl))
  refine wpAny_items_nil (kwAll_nil ⟨trivial,?_⟩)
  show wpAny b.M (A.deeper env) (call (.builtin "Exception.__init__") [.ref e,v]) _ _ _
  refine own_init (s:={ s1 with toks:=s1.toks + 1 }) (X1 _ _ ec) (gr _ _ he) fun h2 t1 b2 he2 => ?_
  have kp:But e s.heap h2:=fun b o hb q => b2 b o hb (gr _ _ q)
  have base2:Grown b.heap h2:=fun b o q => kp b o (fun z => by rw [z,he0] at q; cases q) (base b o q)
  have ns2:h2.Ns env.locals mL:=nsL.at' fun o q => b2 _ o (Ne.symm heL) q
  exact wpAny_execs_cons (plainObj_wpAny_Assign_Attribute (loadL dM k2 ns2 m2 (loadL dS k1 ns2 m1 (own_setattr (s:=⟨h2,s1.gens,s1.drawn,s1.toks + 1,s1.os⟩) (T.inK.keeps base2) N he2 fun h3 tk dx b3 he3 htk =>
   wpAny_execs_nil ⟨rfl,Nat.le_trans tk1 (Nat.le_trans (Nat.le_succ _) htk),hio,fun b o hb q => b3 b o hb (kp b o hb q),t1,dx,he3⟩))))
 rcases hgx with hve | ⟨e1',e2'⟩
 ·exact loadGlobal_global n1' hve go
 ·exact loadGlobal_builtin n1' e1' n2' e2' go
theorem raise_made {M:Model} {env:Env} {x:ExcHd} {C:Addr} {t:Sem Value} {Q:Flow -> Shared -> Prop} (hh:A.handled = none)
  (h:wpAny M A t (fun v s₁ => ∃ e t dx,v = .ref e /\ s₁.heap.get? C = some (x.obj C) /\ s₁.heap.get? e = some (excO C (some dx) t) /\ E (.ref e) s₁) E s):wpAny M A (raiseStmt env (some t) none) Q E s:=by
 have hcB:=has_base (C:=C) (Ma:=x.Ma)
 unfold raiseStmt
 refine wpAny_bind (wpAny_mono h (fun v s₁ h₁ => ?_) fun _ _ x => x)
 obtain ⟨e,t,dx,rfl,hC,he,hE⟩:=h₁
 obtain ⟨hp,g,d,tk,os⟩:=s₁
 unfold excO at he
 repeat (first | with_reducible refine wpAny_loadPart_at he ?_ | with_reducible refine wpAny_loadPart_at hC ?_ | (with_reducible refine wpAny_isSubtype_exc hC ?_; rw [hcB]) | wp_step)
 exact wpAny_raiseNew_none hh hE
end
theorem fun_frames {h B:Heap} {l:List Env}:(∀ env ∈ l,env.scope.kind ≠ .module /\ ∃ L o,env.frame = some L /\ B.get? L = none /\ h.get? L = some o /\ FrObj o) -> h.FunFrames B l:=by
 induction l with
 | nil => exact fun _ => trivial
 | cons env r ih =>
  intro H
  obtain ⟨a,L,o,x,c,d,es,n,e⟩:=H env (.head _)
  exact ⟨a,⟨L,o,x,c,d,fun vs q => by rw [e] at q; cases q⟩,ih fun env he => H env (.tail _ he)⟩
theorem fly_made {b:Hb} {m:Ms} {fr:Option (List Env)} {c e t dx:Addr} {h2:Heap} (R:Rel b m) (hA:fr = some b.envs) (new:m.s.heap.get? e = none) (kp:But e m.s.heap h2) (he:h2.get? e = some (excO c (some dx) t)):FlyX b.heap fr c m.g m.s.heap h2 (.ref e):=by
 have ne:∀ x o,m.s.heap.get? x = some o -> x ≠ e:=fun x o q z => by rw [z,new] at q; cases q
 have kp':Grown m.s.heap h2:=fun x o q => kp x o (ne x o q) q
 refine ⟨b.envs,e,hideAll m.s.heap (b.envs.filterMap (·.frame)),hA,fun x o q => kp' x o (of_hideAll _ q),?_,?_,.made _ _ _ he rfl rfl rfl rfl,fun x o q hn => ⟨o.slots,kp' x o q⟩,fun a o q => ?_⟩
 ·cases z:(hideAll m.s.heap (b.envs.filterMap (·.frame))).get? e with
  | none => rfl
  | some o => rw [of_hideAll _ z] at new; cases new
 ·refine fun_frames fun env henv => ?_
  obtain ⟨a,L,o,x,_,_,d,f⟩:=R.fr env henv
  exact ⟨a,L,o,x,hideAll_none _ (List.mem_filterMap.mpr ⟨env,henv,x⟩),kp' L o d,f⟩
 ·by_cases z:a ∈ b.envs.filterMap (·.frame)
  ·obtain ⟨env,henv,hf⟩:=List.mem_filterMap.mp z
   obtain ⟨_,L,o',x,c1,c2,d,f⟩:=R.fr env henv
   rw [x] at hf; cases hf
   rw [q] at d; cases d
   exact .inr ⟨c2,c1,f⟩
  ·exact .inl (hideAll_get _ q z)
theorem ts_raise {W:Wd} {S:Sc} {g:Expr -> CE} (C:CtxOk W) (HS:ScRel S W.env) (H:∀ e,TE W (eval e W.env) (g e)) (hS:∀ e,starless e = false -> g e = .fail) {x:Str} {xp cp p:Pos} {e:Expr} {c:Addr} (hd:notDebug x = true) (hx:S.sc.names.lookup x = some .globalImplicit) (hst:noStar [e] = true) (hg:tabGl.lookup x = some (.cls c)) (hxc:tabExc.contains c = true) :
  TS W (exec (.Raise (some (.Call (.Name x xp) [e] [] cp)) none p) W.env) (evS (.raise c (g e))):=fun P fr N m Z q => by
 have N:=C.T.exc c hxc
 obtain ⟨X,ec⟩:=N.obj
 obtain ⟨f,hi,hf,IF⟩:=N.init
 rw [arm_exec_Raise]
 refine wpAny_bind (wpAny_standAt ?_)
 show wpAny W.b.M W.A (raiseStmt W.env (some (do let v <- (eval (.Name x xp) W.env >>= fun fv => callWith cp fv [] (backTo cp (starEach [e] W.env)) (backToKw cp (keywordEach [] W.env))); standAt p; pure v)) none) _ _ _
 refine raise_made (C:=c) (x:=X) C.B.handled (wpAny_bind (wpAny_bind ?_))
 refine load_global C.T.gl Z.R.base Z.F.st hg (kind_same HS nofun hx) hd fun fv hv => ?_
 have hv:fv = .ref c:=hv
 subst hv
 refine sound_args (P:=P) (kws:=[]) H hS hst rfl (keeps_ref C.T.inK (C.T.keepC _ _ hg)) Z (K:=fun vs ks e fr σ => match vs with | [v] => sK v (e.P.exc c fr σ) | _ => False) q fun vs ks vals kvals m1 q1 e1 e2 S1 Z1 => ?_
 cases e2
 cases vs with
 | nil => exact q1.elim
 | cons v r =>
  cases r with
  | cons _ _ => exact q1.elim
  | nil =>
   obtain ⟨v',_,ev,er⟩:=e1
   cases er
   have q1:P.exc c fr m1.σ:=by
    cases v with
    | str _ => exact q1
    | _ => exact q1.elim
   refine own_call (s:=m1.s) (C.T.inK.keeps Z1.R.base) (C.T.inK.keeps Z1.R.base _ _ ec) N.new hi hf fun h' e0 t0 kp new he => ?_
   have base':Grown W.b.heap h':=fun a o z => kp a o (Z1.R.base a o z)
   have B':=under_aok C.B c [v']
   refine wpAny_mono (init_fn (s:={ m1.s with heap:=h' }) C.T N IF (Nat.lt_of_le_of_lt (Nat.le_add_right _ _) (Nat.lt_trans B'.depth (by decide))) base' (Z1.R.hb_none new) Z1.t he) (fun r s2 z => ?_) fun _ _ z => z
   obtain ⟨rfl,tk2,io2,k2,t1',dx,he2⟩:=z
   have kp2:But e0 m1.s.heap s2.heap:=fun a o hb z => k2 a o hb (kp a o z)
   have ne:∀ a o,m1.s.heap.get? a = some o -> a ≠ e0:=fun a o q z => by rw [z,new] at q; cases q
   have eC:=C.T.inK.keeps Z1.R.base _ _ ec
   refine ⟨rfl,wpAny_bind (wpAny_standAt (wpAny_pure ⟨e0,t1',dx,rfl,kp2 _ _ (ne _ _ eC) eC,he2,c,fr,m1.σ,m1.g,m1.s.heap,q1,?_,fly_made Z1.R C.B.frames new kp2 he2⟩))⟩
   exact Z1.step (m':=⟨m1.σ,m1.g,{ s2 with heap:=m1.s.heap }⟩) (Z1.R.grown io2 fun _ _ e => e) StepH.refl tk2
noncomputable def Good (S:Sc) (ns:List Str) (t:Env -> Sem Flow) (c:SC):Prop:=∀ W:Wd,StOk W -> ScRel S W.env -> W.ns = ns -> TS W (t W.env) c
noncomputable abbrev GS (S:Sc) (ns:List Str) (t:Env -> Sem Flow):Type:={ c:CS // Good S ns t (evS c) }
noncomputable abbrev GB (S:Sc) (ns:List Str) (b:List Stmt):Type:={ c:CSs // Good S ns (execs b) (evSs c) }
section
variable {S:Sc} {ns:List Str} {t:Env -> Sem Flow}
noncomputable def noG:GS S ns t:=⟨.fail,fun _ _ _ _ => ts_fail fun _ _ _ _ q => q⟩
noncomputable def ifG (b:Bool) (c:CS) (h:b = true -> Good S ns t (evS c)):GS S ns t:=⟨bif b then c else .fail,by
 cases b with
 | true => exact h rfl
 | false => exact (noG (S:=S)).2⟩
noncomputable def opG {α:Type} (o:Option α) (c:α -> CS) (h:∀ a,o = some a -> Good S ns t (evS (c a))):GS S ns t:=⟨o.rec .fail c,by
 cases o with
 | some a => exact h a rfl
 | none => exact (noG (S:=S)).2⟩
end
noncomputable def excOf (x:Str):Option Addr:=(tabGl.lookup x).bind fun g => match g with
 | .cls c => bif tabExc.contains c then some c else none
 | _ => none
theorem excOf_inv {x:Str} {c:Addr} (h:excOf x = some c):tabGl.lookup x = some (.cls c) /\ tabExc.contains c = true:=by
 obtain ⟨g,e,h⟩:=Option.bind_eq_some_iff.mp h
 cases g with
 | cls c' =>
  obtain ⟨h1,h2⟩:=bif_opt h
  cases h2
  exact ⟨e,h1⟩
 | _ => cases h
section
variable (S:Sc) (ns:List Str) (k:Nat)
noncomputable def okTwo (x y:Str):Bool:=nameOk S x && nameOk S y && !(x == y)
variable {S ns} in
theorem two_of {x y:Str} {i j:Nat} (hi:slot x ns = some i) (hj:slot y ns = some j) (h:okTwo S x y = true):Two S ns x y i j:=by
 obtain ⟨h1,h2,h3⟩:=and3 h
 exact ⟨hi,hj,h1,h2,fun q => by rw [q,beq_self_eq_true] at h3; cases h3⟩
noncomputable def asgS (tg e:Expr) (p:Pos):GS S ns (exec (.Assign [tg] e p)):=by
 cases tg with
 | Attribute o x ap => exact opG (tabAttr.lookup x) (fun cs => .setattr (compX k S ns (some false) o) x cs (compX k S ns (some true) e)) fun cs h W O H q => by cases q; exact ts_setattr O.C h fun mk e => (snd k).e W S mk e O.C H
 | Subscript o i ap => exact ⟨.setitem (compX k S ns (some false) o) (compX k S ns (some false) i) (compX k S ns (some false) e),fun W O H q => by cases q; exact ts_setitem O.C fun e => (snd k).e W S false e O.C H⟩
 | Name x xp => exact ⟨(slot x ns).rec .fail fun i => bif nameOk S x then .asg i (compX k S ns (some (S.mu.contains x)) e) else .fail,(opG (slot x ns) (fun i => bif nameOk S x then .asg i (compX k S ns (some (S.mu.contains x)) e) else .fail) fun i h => (ifG (nameOk S x) _ fun h2 W O H q => by
   cases q
   exact ts_asg (snd k) (fun j _ => snd j) O.C H O.nd h h2).2).2⟩
 | Tuple es kk tp =>
  cases es with
  | nil => exact noG
  | cons a r =>
   cases r with
   | nil => exact noG
   | cons b r =>
    cases r with
    | cons _ _ => exact noG
    | nil =>
     cases nm a with
     | nm x px =>
      cases nm b with
      | nm y py => exact opG (slot x ns) (fun i => (slot y ns).rec .fail fun j => bif okTwo S x y && swapV (view e) then .asg2 i j (compX k S ns (some (S.mu.contains x || S.mu.contains y)) e) else .fail) fun i hi => (opG (slot y ns) _ fun j hj => (ifG (okTwo S x y && swapV (view e)) _ fun h W O H q => by
        cases q
        obtain ⟨h1,h2⟩:=Bool.and_eq_true_iff.mp h
        exact ts_asg2 O.C H O.nd (two_of hi hj h1) h2 ((snd k).e W S _ e O.C H)).2).2
      | _ => exact noG
     | _ => exact noG
 | _ => exact noG
noncomputable def forS (b:List Stmt) (cb:GB S ns b) (tg it:Expr) (p:Pos):GS S ns (exec (.For tg it b [] p)):=by
 cases tg with
 | Name x xp => exact opG (slot x ns) (fun i => bif nameOk S x && starless it then .for1 i (compX k S ns (some false) it) cb.1 else .fail) fun i hi => (ifG (nameOk S x && starless it) _ fun h W O H q => by
   cases q
   obtain ⟨h1,h2⟩:=Bool.and_eq_true_iff.mp h
   exact ts_for O (.inl fun _ _ => rfl) h2 ((snd k).e W S false it O.C H) (tg_name H O.nd hi h1) fun m => cb.2 _ (O.at m) H rfl).2
 | Tuple es kk tp =>
  cases es with
  | nil => exact noG
  | cons a r =>
   cases r with
   | nil => exact noG
   | cons c r =>
    cases r with
    | cons _ _ => exact noG
    | nil =>
     cases nm a with
     | nm x px =>
      cases nm c with
      | nm y py => exact opG (slot x ns) (fun i => (slot y ns).rec .fail fun j => bif okTwo S x y && starless it then .for2 i j (compX k S ns (some false) it) cb.1 else .fail) fun i hi => (opG (slot y ns) _ fun j hj => (ifG (okTwo S x y && starless it) _ fun h W O H q => by
        cases q
        obtain ⟨h1,h2⟩:=Bool.and_eq_true_iff.mp h
        exact ts_for O (.inr ⟨_,_,_,rfl⟩) h2 ((snd k).e W S false it O.C H) (tg_two O.C.B.handled H O.nd (two_of hi hj h1)) fun m => cb.2 _ (O.at m) H rfl).2).2
      | _ => exact noG
     | _ => exact noG
 | _ => exact noG
noncomputable def raiseS (e:Expr) (p:Pos):GS S ns (exec (.Raise (some e) none p)):=by
 cases e with
 | Call f args kws cp =>
  cases nm f with
  | nm x xp =>
   cases kws with
   | cons _ _ => exact noG
   | nil =>
    cases args with
    | nil => exact noG
    | cons a r =>
     cases r with
     | cons _ _ => exact noG
     | nil => exact opG (excOf x) (fun c => bif notDebug x && (S.sc.names.lookup x == some .globalImplicit) && noStar [a] then .raise c (compX k S ns (some false) a) else .fail) fun c hc => (ifG (notDebug x && (S.sc.names.lookup x == some .globalImplicit) && noStar [a]) _ fun h W O H q => by
       cases q
       obtain ⟨h1,h2,h3⟩:=and3 h
       obtain ⟨h4,h5⟩:=excOf_inv hc
       exact ts_raise O.C H (fun e => (snd k).e W S false e O.C H) (fun e h => star_fail h) h1 (beq_iff_eq.mp h2) h3 h4 h5).2
  | _ => exact noG
 | _ => exact noG
noncomputable def IsRet (b:List Stmt) (r:Bool):Prop:=∃ k cp rp,b = [.Return (some (.Constant (.bool r) k cp)) rp]
noncomputable def retB (b:List Stmt):Option { r:Bool // IsRet b r }:=by
 cases b with
 | nil => exact none
 | cons s l =>
  cases l with
  | cons _ _ => exact none
  | nil =>
   cases s with
   | Return v rp =>
    cases v with
    | none => exact none
    | some e =>
     cases e with
     | Constant c k cp =>
      cases c with
      | bool r => exact some ⟨r,k,cp,rp,rfl⟩
      | _ => exact none
     | _ => exact none
   | _ => exact none
noncomputable def tryS (b:List Stmt) (cb:GB S ns b) (hs:List ExceptHandler) (p:Pos):GS S ns (exec (.Try b hs [] [] p)):=by
 cases hs with
 | nil => exact noG
 | cons h r =>
  cases r with
  | cons _ _ => exact noG
  | nil =>
   obtain ⟨ty,nme,hb,hp⟩:=h
   cases ty with
   | none => exact noG
   | some e =>
    cases nme with
    | some _ => exact noG
    | none =>
     cases nm e with
     | nm x xp => exact opG (excOf x) (fun c => (retB hb).rec .fail fun r => bif notDebug x && (S.sc.names.lookup x == some .globalImplicit) then .try cb.1 c (.cons (.ret (.const (.bool r.1))) .nil) else .fail) fun c hc => (opG (retB hb) _ fun r _ => (ifG (notDebug x && (S.sc.names.lookup x == some .globalImplicit)) _ fun h W O H q => by
       cases q
       obtain ⟨h1,h2⟩:=Bool.and_eq_true_iff.mp h
       obtain ⟨h4,h5⟩:=excOf_inv hc
       obtain ⟨r,k,cp,rp,rfl⟩:=r
       exact ts_try O H h1 (beq_iff_eq.mp h2) h4 h5 (cb.2 W O H rfl)).2).2
     | _ => exact noG
noncomputable def compS (f:∀ b,GB S ns b) (s:Stmt):GS S ns (exec s):=by
 cases s with
 | Expr e p => exact ifG (notComp e) (.expr (compX k S ns (some false) e)) fun h W O H q => by cases q; exact ts_expr h ((snd k).e W S false e O.C H)
 | Return v p =>
  cases v with
  | none => exact ⟨.ret (.const .none),fun W O H q => ts_retN⟩
  | some e => exact ⟨.ret (compX k S ns (some (S.mu.contains "return")) e),fun W O H q => by cases q; exact ts_ret ((snd k).e W S _ e O.C H)⟩
 | Assign tg e p =>
  cases tg with
  | nil => exact noG
  | cons a r =>
   cases r with
   | nil => exact asgS S ns k a e p
   | cons _ _ => exact noG
 | If t b o p => exact ⟨.ite (compX k S ns none t) (f b).1 (f o).1,fun W O H q => by cases q; exact ts_ite ((snd k).t W S t O.C H) ((f b).2 W O H rfl) ((f o).2 W O H rfl)⟩
 | While t b o p =>
  cases o with
  | nil => exact ⟨.while (compX k S ns none t) (f b).1,fun W O H q => by cases q; exact ts_while O ((snd k).t W S t O.C H) ((f b).2 W O H rfl)⟩
  | cons _ _ => exact noG
 | For tg it b o p =>
  cases o with
  | nil => exact forS S ns k b (f b) tg it p
  | cons _ _ => exact noG
 | Raise e c p =>
  cases c with
  | some _ => exact noG
  | none =>
   cases e with
   | some e => exact raiseS S ns k e p
   | none => exact noG
 | Try b hs o fb p =>
  cases o with
  | cons _ _ => exact noG
  | nil =>
   cases fb with
   | cons _ _ => exact noG
   | nil => exact tryS S ns b (f b) hs p
 | _ => exact noG
noncomputable def compSs:∀ (n:Nat) (b:List Stmt),GB S ns b:=fun n => n.rec (fun b => ⟨.cons .fail .nil,fun W O H q P fr N m Z e => e.elim⟩) fun k f b => by
 cases b with
 | nil => exact ⟨.nil,fun W O H q => ts_nil⟩
 | cons s r => exact ⟨.cons (compS S ns k f s).1 (f r).1,fun W O H q => ts_cons ((compS S ns k f s).2 W O H q) ((f r).2 W O H q)⟩
end
noncomputable def localsOf (sc:Scope) (ps:List Str):List Str:=(sc.names.filter fun p => (p.2 == .local || p.2 == .cell) && !ps.contains p.1).map (·.1)
inductive Bound (s:Shared) (U:Addr -> Prop) (T:Nat -> Value -> Prop) (fd:FuncData) (ps:List Str) (a:Args) (vs:List V):Prop | mk (xs:List Value) (b:BindsTo s fd a (ps.zip xs)) (e:VRs s.heap U T vs xs) (l:vs.length = ps.length)
noncomputable def BindOk (K:Frag) (fd:FuncData) (ps:List Str) (c:CF):Prop:=∀ ⦃s:Shared⦄ ⦃U:Addr -> Prop⦄ ⦃T:Nat -> Value -> Prop⦄ ⦃args vs:List V⦄ ⦃kw:List (Str × V)⦄ ⦃vals:List Value⦄ ⦃kvals:List (Str × Value)⦄,K.In s.heap -> bindF c args kw = some vs -> VRs s.heap U T args vals -> KVs (VR s.heap U T) kw kvals ->
 Bound s U T fd ps ⟨vals,kvals⟩ vs
structure FnOk (K:Frag) (f:Addr) (c:CF):Prop where
 ex:∃ fd body mu ps,FdOk K f fd /\ fd.params.args.map (·.arg) = ps /\ fd.body = .stmts body /\ c.body = (compSs ⟨fd.scope,mu⟩ (ps ++ localsOf fd.scope ps) 60 body).1 /\ (ps ++ localsOf fd.scope ps).Nodup /\ (∀ p ∈ fd.scope.names,p.2 ≠ .free) /\ (∀ x ∈ ps,fd.scope.names.lookup x = some .local \/ fd.scope.names.lookup x = some .cell) /\ BindOk K fd ps c
noncomputable def Hb.at (b:Hb) (l:List Env):Hb:=⟨b.heap,b.io,l,b.w,b.k⟩
noncomputable def Hb.push (b:Hb) (env:Env):Hb:=b.at (env :: b.envs)
theorem frame_get {n:Nat} {v:V} {vs:List V}:∀ {i:Nat},getF (frame vs n) i = some v -> vs[i]? = some v:=by
 induction vs with
 | nil =>
  intro i h
  have h:=getF_get h
  rw [show frame [] n = List.replicate n none from rfl,List.getElem?_replicate] at h
  by_cases q:i < n
  ·rw [if_pos q] at h; cases h
  ·rw [if_neg q] at h; cases h
 | cons u r ih =>
  intro i h
  cases i with
  | zero => exact h
  | succ i => exact ih h
theorem zip_get {x:Str} {v:Value} {ps:List Str}:∀ {xs:List Value} {i:Nat},ps.Nodup -> ps[i]? = some x -> xs[i]? = some v -> (ps.zip xs).lookup x = some v:=by
 induction ps with
 | nil => exact fun _ h => nomatch h
 | cons p ps ih =>
  intro xs i nd h1 h2
  cases xs with
  | nil => exact nomatch h2
  | cons y xs =>
   rw [List.zip_cons_cons,lookup_head]
   cases i with
   | zero => cases h1; cases h2; exact if_pos rfl
   | succ i =>
    rw [List.nodup_cons] at nd
    have h1:ps[i]? = some x:=h1
    rw [if_neg fun q:x = p => nd.1 (q ▸ List.mem_of_getElem? h1)]
    exact ih nd.2 h1 h2
theorem cells_has {x:Str} {names:List (Str × NameKind)}:∀ {m:Nat} {acc:List (Str × Addr)},((acc.lookup x).isSome = true \/ (x,NameKind.cell) ∈ names) -> ((cellsFrom m names acc).lookup x).isSome = true:=by
 induction names with
 | nil => exact fun h => h.resolve_right nofun
 | cons p r ih =>
  intro m acc h
  obtain ⟨y,kd⟩:=p
  unfold cellsFrom
  by_cases q:(kd == NameKind.cell) = true
  ·rw [if_pos q]
   refine ih ?_
   rw [lookup_head]
   by_cases z:x = y
   ·rw [if_pos z]; exact .inl rfl
   ·rw [if_neg z]
    exact h.imp_right fun h => (List.mem_cons.mp h).resolve_left fun h => z (congrArg Prod.fst h)
  ·rw [if_neg q]
   refine ih (h.imp_right fun h => (List.mem_cons.mp h).resolve_left fun h => q ?_)
   cases h; rfl
section
variable {b:Hb} {m:Ms} {env:Env} {L:Str -> V -> Prop}
theorem Rel.pop (R:Rel (b.push env) m):Rel b m:=⟨R.n,R.at_,R.sep,R.base,R.ge,R.forb,R.disj,R.ios,fun e he => R.fr e (.tail _ he)⟩
theorem Rel.push (R:Rel b m) (hf:FrAt b.heap m.g m.s.heap env):Rel (b.push env) m:=⟨R.n,R.at_,R.sep,R.base,R.ge,R.forb,R.disj,R.ios,fun e he => by
 rcases List.mem_cons.mp he with rfl | he
 ·exact hf
 ·exact R.fr e he⟩
theorem FRL.push (F:FRL b env L m):FRL (b.push env) env L m:=⟨F.st,F.ns,F.cells,F.ex,F.unow,F.names⟩
theorem fn_frame {sc:Scope} {ps ls:List Str} {vs:List V} {xs:List Value} {n:Nat} {s1:Shared} (R:Rel b m) (hk:sc.kind = .function) (nf:∀ p ∈ sc.names,p.2 ≠ .free) (hn:∀ x ∈ ps,sc.names.lookup x = some .local \/ sc.names.lookup x = some .cell) (nd:ps.Nodup) (ev:VMs m vs xs) (hl:vs.length = ps.length)
  (he:env.scope = sc) (h1:env.globals = mainGlobals) (h2:env.builtins = builtinsNs) (h3:env.locals = m.s.heap.objs.size) (h4:env.cells = cellsFrom (m.s.heap.objs.size + 1) sc.names []) (x:InCallC m.s env.locals (bindL env.kindOf (ps.zip xs) fun _ => none) env.cells (bindC env.kindOf (ps.zip xs) fun _ => none) s1) :
  FRL b env (hold (ps ++ ls) (frame vs n)) ⟨m.σ,m.g,s1⟩:=by
 have bn:((ps.zip xs).map (·.1)).Nodup:=by rw [List.map_fst_zip (Nat.le_of_eq (ev.length.trans hl).symm)]; exact nd
 have kd:∀ y,env.kindOf y = sc.names.lookup y:=fun y => by show env.scope.names.lookup y = _; rw [he]
 have gr:Grown m.s.heap s1.heap:=x.toInCall.keep
 have at_:∀ {y u},hold (ps ++ ls) (frame vs n) y u -> y ∈ ps /\ ∃ v',(ps.zip xs).lookup y = some v' /\ VM ⟨m.σ,m.g,s1⟩ u v':=fun {y u} q => by
  obtain ⟨i,q1,q2⟩:=q
  have q2:=frame_get q2
  have hi:i < ps.length:=hl ▸ (List.getElem?_eq_some_iff.mp q2).1
  rw [List.getElem?_append_left hi] at q1
  obtain ⟨v',e1,e2⟩:=VRs.get ev q2
  exact ⟨List.mem_of_getElem? q1,v',zip_get nd q1 e1,VM.grown gr e2⟩
 refine ⟨⟨by rw [he]; exact hk,h1,h2,fun y ca hy => Nat.ne_of_gt (x.above y ca (mem_of_lookup' hy)),fun y z ca hy hz => name_of_addr x.apart (mem_of_lookup' hy) (mem_of_lookup' hz)⟩,⟨_,x.toInCall.ns,fun y v hy hk => ?_⟩,fun y hy => ?_,fun y ca hy => ⟨_,x.cell y ca hy⟩,fun a ha => ?_,fun y u hy q => ?_⟩
 ·obtain ⟨_,v',e1,e2⟩:=at_ hy
  exact ⟨v',(bind_get bn e1 (c:=fun _ => none)).1 hk,e2⟩
 ·have hc:env.kindOf y = some .cell:=hy.resolve_right fun hy => nf _ (mem_of_lookup' ((kd y).symm.trans hy)) rfl
  have:=cells_has (m:=m.s.heap.objs.size + 1) (acc:=[]) (.inr (mem_of_lookup' ((kd y).symm.trans hc)))
  rw [<- h4] at this
  obtain ⟨ca,e⟩:=Option.isSome_iff_exists.mp this
  refine ⟨ca,_,e,x.cell y ca e,fun u hu => ?_⟩
  obtain ⟨_,v',e1,e2⟩:=at_ hu
  exact ⟨v',(bind_get bn e1 (m:=fun _ => none)).2 (by rw [hc]; exact nofun),e2⟩
 ·have:m.s.heap.get? a = none:=none_ge (by
   rcases ha with rfl | ⟨y,hy⟩
   ·exact Nat.le_of_eq h3.symm
   ·exact Nat.le_of_lt (h3 ▸ x.above y a (mem_of_lookup' hy)))
  exact ⟨R.none_free this,R.hb_none this⟩
 ·rcases hn y (at_ hy).1 with z | z <;> rw [kd,z] at q <;> cases q
theorem StepH.own_new {own:Addr -> Prop} {g g':G} {h h1 h':Heap} (T:StepH own g h1 g' h') (gr:Grown h h1) (ho:∀ a,own a -> h.get? a = none):StepH No g h g' h':=by
 have ne:∀ a o,h.get? a = some o -> ¬ own a:=fun a o e q => by rw [ho a q] at e; cases e
 refine ⟨T.n,T.rho,T.forb,fun i x hi hx => (T.new i x hi hx).imp_right fun z => ?_,fun a o e hu _ => T.keep a o (gr _ _ e) hu (ne a o e),fun a o e => T.live a o (gr _ _ e),fun a o e q _ => T.exact a o (gr _ _ e) q (ne a o e)⟩
 cases y:h.get? x with
 | none => rfl
 | some o => rw [gr _ _ y] at z; cases z
noncomputable def G.cut (g:G) (m:Nat):G:=⟨m,g.ρ,g.ow,g.forb⟩
theorem closeds_all {k:Nat} {l:List V}:V.closeds k l = true -> ∀ v ∈ l,v.closed k = true:=by
 induction l with
 | nil => exact fun _ _ h => nomatch h
 | cons v r ih => exact fun h u hu => (List.mem_cons.mp hu).elim (fun e => e ▸ (Bool.and_eq_true_iff.mp h).1) (ih (Bool.and_eq_true_iff.mp h).2 u)
theorem conv_cut {h:Heap} {U U':Addr -> Prop} {g:G} {k:Nat} (hU:∀ a,U a -> U' a):Conv h U U' g.at (g.cut k).at fun v => v.closed k = true :=
 ⟨fun _ p => closeds_all p,fun _ p => ⟨closeds_all p,fun a _ u _ => hU a u⟩,fun n x p e => by obtain ⟨hi⟩:=e; exact ⟨of_decide_eq_true p⟩⟩
theorem cellp_closed {k:Nat} {c:Cell} (h:c.closed k = true):CellP (fun v => v.closed k = true) c:=by
 cases c with
 | list l => exact closeds_all h
 | dict l => exact List.all_eq_true.mp h
 | tdict l => exact List.all_eq_true.mp h
 | inst c fs =>
  intro k' v e
  have:=List.all_eq_true.mp h (k',v) (mem_of_lookup' e)
  dsimp only at this
  rw [e] at this
  exact this
 | pack => trivial
theorem drop_ok {Q:V -> St -> Prop} {d:Bool} {v:V} {v':Value} {m':Ms} (q:Q v (dropF d m.σ v m'.σ)) (R0:Rel b m) (R:Rel b m') (ev:VM m' v v') (S:Step No m m'):OK b Q m v' m'.s:=by
 cases d with
 | false => exact ⟨v,m'.σ,m'.g,q,R,ev,S⟩
 | true =>
  have q:Q v (if m.σ.length <= m'.σ.length /\ v.closed m.σ.length = true /\ (m'.σ.take m.σ.length).all (Cell.closed m.σ.length) = true then m'.σ.take m.σ.length else m'.σ):=q
  by_cases c:m.σ.length <= m'.σ.length /\ v.closed m.σ.length = true /\ (m'.σ.take m.σ.length).all (Cell.closed m.σ.length) = true
  ·rw [if_pos c] at q
   obtain ⟨c1,c2,c3⟩:=c
   have hl:(m'.σ.take m.σ.length).length = m.σ.length:=by rw [List.length_take]; exact Nat.min_eq_left c1
   have hn:m.σ.length <= m'.g.n:=by rw [R.n]; exact c1
   have lt:∀ {i},i < m.σ.length -> i < m'.g.n:=fun hi => Nat.lt_of_lt_of_le hi hn
   have hU:∀ a,m'.g.free a -> (m'.g.cut m.σ.length).free a:=fun a u => ⟨fun i hi hx => u.1 i (lt hi) hx,u.2⟩
   refine ⟨v,m'.σ.take m.σ.length,m'.g.cut m.σ.length,q,⟨hl.symm,fun i x e => ?_,fun i j x hi hj => R.sep i j x (lt hi) (lt hj),R.base,fun i x hi => R.ge i x (lt hi),R.forb,fun i x hi => R.disj i x (lt hi),R.ios,R.fr.mono fun L o hl e f => ⟨hU L hl,o,e,f⟩⟩,VR.conv (conv_cut hU) c2 ev,⟨Nat.le_of_eq R0.n,S.rho,S.forb,fun i x hi hx => S.new i x (lt hi) hx,S.keep,S.live,S.exact⟩⟩
   have e':m'.σ[i]? = some x:=by
    have hi:i < m.σ.length:=hl ▸ (List.getElem?_eq_some_iff.mp e).1
    exact (List.getElem?_take_of_lt hi).symm.trans e
   exact (R.at_ i x e').conv (conv_cut hU) (cellp_closed (List.all_eq_true.mp c3 x (List.mem_of_getElem? e)))
  ·rw [if_neg c] at q; exact ⟨v,m'.σ,m'.g,q,R,ev,S⟩
end
section
variable {b:Hb} {A:Around} {E:Value -> Shared -> Prop} {s:Shared} {env:Env}
theorem st_tok {M:Model} {s₀:Shared} {m cm:Str -> Option Value} {x:Str} {v:Value} {Q:Unit -> Shared -> Prop} (z:InCallC s₀ env.locals m env.cells cm s) (hk:env.scope.kind = .function) (hl:env.kindOf x = some .local)
  (h:∀ s',InCallC s₀ env.locals (fun y => if y = x then some v else m y) env.cells cm s' -> 1 <= s'.toks -> Q () s'):wpAny M A (storeName env x v) Q E s:=by
 refine wpAny_storeName_local hl z.toInCall.ns (fun h' hn' hs' => h _ ⟨⟨?_,hn',fun b o e => ?_,z.toInCall.fresh⟩,fun k c hc => ?_,z.apart,z.above⟩ (Nat.succ_le_succ (Nat.zero_le _))) (by rw [hk]; rfl)
 ·obtain ⟨h₁,tk,rfl⟩:=z.toInCall.same
  exact ⟨h',_,rfl⟩
 ·exact (hs'.2 b (Nat.ne_of_lt (Nat.lt_of_lt_of_le (Heap.lt_size e) z.toInCall.fresh))).trans (z.toInCall.keep b o e)
 ·exact (z.cell k c hc).sameBut hs' (Nat.ne_of_gt (z.above k c (mem_of_lookup' hc)))
theorem newEnv_one {M:Model} {scope:Scope} {globals:Addr} {p:Str} {v:Value} {qual:Str} {func:Option Addr} {code:Value} {builtins:Addr} {Q:Env -> Shared -> Prop} (hk:scope.kind = .function) (hp:scope.names.lookup p = some .local)
  (hQ:∀ env,env = newEnv scope s.heap.objs.size globals (cellsFrom (s.heap.objs.size + 1) scope.names []) qual func code none builtins ->
   ∀ s',InCallC s env.locals (bindL env.kindOf [(p,v)] fun _ => none) env.cells (bindC env.kindOf [(p,v)] fun _ => none) s' -> 1 <= s'.toks -> Q env s') :
  wpAny M A (newFunctionEnv scope globals [] [(p,v)] qual func code none builtins) Q E s:=by
 simp only [newFunctionEnv,Option.isSome_none,Bool.false_eq_true,if_false]
 refine wpAny_bind (wpAny_alloc ?_)
 refine wpAny_bind (wpAny_layCells _ (fun name kind cells => by cases hkc:kind == NameKind.cell <;> simp) _ _ _ _ ?_)
 have ok:=cellsFrom_ok scope.names (s.heap.push { cls:=.type "frame",data:=.dict #[] }) (s.heap.objs.size + 1) [] ⟨fun _ _ hm => (nomatch hm),List.Pairwise.nil⟩ (by rw [Heap.size_push]; exact Nat.le_refl _)
 rw [Heap.size_push] at ok
 rw [show ({ s with heap:=s.heap.push { cls:=.type "frame",data:=.dict #[] } }:Shared).heap.objs.size = s.heap.objs.size + 1 from Heap.size_push ..]
 refine wpAny_bind ?_
 rw [List.forIn_cons]
 have hl:(newEnv scope s.heap.objs.size globals (cellsFrom (s.heap.objs.size + 1) scope.names []) qual func code none builtins).kindOf p = some .local:=hp
 refine wpAny_bind (wpAny_bind (st_tok (s₀:=s) (m:=fun _ => none) (cm:=fun _ => none) (env:=newEnv scope s.heap.objs.size globals (cellsFrom (s.heap.objs.size + 1) scope.names []) qual func code none builtins)
  ⟨⟨⟨_,_,rfl⟩,(Heap.Ns.new s.heap (.type "frame")).keeps (pushCells_keeps _ _),fun b o e => pushCells_keeps _ _ b o (Heap.get?_push_of_some _ e),Nat.le_refl _⟩,
   fun n c hc => (ok.empty n c (mem_of_lookup' hc)).1,ok.apart,fun n c hm => (ok.empty n c hm).2⟩ hk hl fun s' x' tk => wpAny_pure (wpAny_pure (wpAny_pure (hQ _ rfl s' ?_ tk)))))
 unfold bindL bindC
 rw [if_pos hl,if_pos hl]
 exact x'
theorem fly_out {W:Wd} (hb:W.b = b.push env) (hA:W.A = A.deeper env) (fA:A.frames = some b.envs) {X:Addr -> St -> Prop} {m:Ms} {e:Value} {s':Shared} (hE:W.env = env) (gr:Grown m.s.heap W.O.s.heap) (hg:W.O.g = m.g) (ho:∀ a,OwnF env a -> m.s.heap.get? a = none) (z:EX W (fun c _ σ => X c σ) e s') :
  wpAny b.M (A.deeper env) (leaving env e) (fun _ s'' => EXC b A X m e s'') (fun _ _ => False) s':=by
 obtain ⟨c,fr,σ,g,ho',x,Z,f⟩:=z
 obtain ⟨l,ea,B,hfr,x1,x2,x3,x4,x5,x6⟩:=f
 have hf':(A.deeper env).frames = some (env :: b.envs):=Around.frames_deeper fA
 rw [hA,hf'] at hfr; cases hfr
 obtain ⟨_,⟨L,_,hf,_⟩,_⟩:=id x3
 unfold leaving
 refine wpAny_bind (note_any hf' hf x1 x2 x3 x4 fun h1 N => ?_)
 obtain ⟨a0,y1,y2,y3,y4⟩:=N
 have R:Rel (b.push env) _:=hb ▸ Z.R
 have S:StepH (OwnF env) m.g W.O.s.heap g ho':=hg ▸ hE ▸ Z.S
 refine wpAny_setFlight_noneW (s:={ s' with heap:=h1 }) y1 y2 y3 fun h2 z1 z2 z3 z4 => ⟨c,σ,g,ho',x,R.pop,S.own_new gr ho,_,ea,B,fA,z1,x2,z2.2.2,.way a0 z3,(x5.trans y4).trans fun b o hb hn => ⟨o.slots,z4 b o hb hn⟩,?_⟩
 rw [hb] at x6
 exact x6
inductive Entered (s:Shared) (fd:FuncData) (bs:List (Str × Value)) (env:Env) (s1:Shared):Prop
 | mk (qual:Str) (func:Option Addr) (e:env = newEnv fd.scope s.heap.objs.size fd.globals (cellsFrom (s.heap.objs.size + 1) fd.scope.names []) qual func fd.code none fd.builtins) (x:InCallC s env.locals (bindL env.kindOf bs fun _ => none) env.cells (bindC env.kindOf bs fun _ => none) s1) (t:1 <= s1.toks)
theorem fn_enter {M:Model} {fd:FuncData} {ps:List Str} {xs:List Value} {qual:Str} {func:Option Addr} {Q:Env -> Shared -> Prop} (hk:fd.scope.kind = .function) (hn:∀ x ∈ ps,fd.scope.names.lookup x = some .local \/ fd.scope.names.lookup x = some .cell) (hl:xs.length = ps.length) (ht:1 <= s.toks \/ ∃ p,ps = [p] /\ fd.scope.names.lookup p = some .local)
  (h:∀ env s1,Entered s fd (ps.zip xs) env s1 -> Q env s1):wpAny M A (newFunctionEnv fd.scope fd.globals [] (ps.zip xs) qual func fd.code none fd.builtins) Q E s:=by
 rcases ht with ht | ⟨p,rfl,hl'⟩
 ·refine wpAny_with_toks ht (wpAny_newFunctionEnv_cells hk (fun y hy => ?_) fun env he s1 x tk1 => h _ _ ⟨_,_,he,x,tk1⟩)
  have hy':y.1 ∈ ps:=by
   have:=List.mem_map_of_mem (f:=(·.1)) hy
   rwa [List.map_fst_zip (Nat.le_of_eq hl.symm)] at this
  exact (hn _ hy').imp_right fun z => ⟨z,cells_has (.inr (mem_of_lookup' z))⟩
 ·cases xs with
  | nil => cases hl
  | cons v r =>
   cases r with
   | cons _ _ => cases hl
   | nil => exact newEnv_one hk hl' fun env he s1 x tk1 => h _ _ ⟨_,_,he,x,tk1⟩
theorem sound_fn {n:Nat} {K:Frag} {cx:Cx} (T:TabOk K b.heap) (hz:SysAt b) (hc:∀ l,CallOk (b.at l) n cx.call) (hi:∀ l k,b.k = k + 1 -> CallOk ((b.at l).lv k) n cx.inner) (hp:b.k = 0 -> ∀ c,cx.packed c = false)
  {f:Addr} {c:CF} (F:FnOk K f c) {args:List V} {kw:List (Str × V)} {Q:V -> St -> Prop} {X:Addr -> St -> Prop} {m:Ms} (q:runF cx c args kw m.σ Q X) (B:AOk b (n + 1) A) {vals:List Value} {kvals:List (Str × Value)} (R:Rel b m) (ea:VMs m args vals) (ek:KVs (VM m) kw kvals)
  (ht:1 <= m.s.toks \/ ∃ fd p,FdOk K f fd /\ fd.params.args.map (·.arg) = [p] /\ fd.scope.names.lookup p = some .local):codeAny b.M A (.call (.ref f) ⟨vals,kvals⟩) (CallP b A Q X m) m.s:=by
 obtain ⟨fd,body,mu,ps,FO,hps,bd,cb,nd,nf,hn,hb⟩:=F.ex
 unfold runF at q
 cases hv:bindF c args kw with
 | none => rw [hv] at q; exact q.elim
 | some vs =>
  rw [hv] at q
  have XK:K.In m.s.heap:=T.inK.keeps R.base
  obtain ⟨xs,b1,ev,hl⟩:=hb XK hv ea ek
  obtain ⟨o,e1,e2⟩:=FO.ex
  have ndp:=(List.nodup_append.mp nd).1
  refine codeAny_call_function (Nat.lt_of_le_of_lt (Nat.le_add_right _ _) (Nat.lt_trans B.depth (by decide))) (XK _ _ e1) e2 FO.co FO.gen bd (codeRec_of XK FO.code) (b1 _ _ _ _ ?_)
  rw [FO.clos]
  have ht:1 <= m.s.toks \/ ∃ p,ps = [p] /\ fd.scope.names.lookup p = some .local:=ht.imp_right fun ⟨fd',p,FO',hp',hl'⟩ => by
   obtain ⟨o',e3,e4⟩:=FO'.ex
   rw [e1] at e3; cases e3
   rw [e2] at e4; cases e4
   exact ⟨p,hps ▸ hp',hl'⟩
  refine fn_enter FO.kind hn (ev.length.trans hl) ht fun env s1 z => ?_
  obtain ⟨qual,func,he,x,tk1⟩:=z
  have h3:env.locals = m.s.heap.objs.size:=by rw [he]; rfl
  refine ⟨(T.lim.keeps R.base).keeps x.toInCall.keep,codeAny_func ?_⟩
  have gr:Grown m.s.heap s1.heap:=x.toInCall.keep
  have hio:(sio s1) = (sio m.s):=by obtain ⟨h',tk,e⟩:=x.toInCall.same; rw [e]
  have R1:Rel b ⟨m.σ,m.g,s1⟩:=R.grown hio gr
  have F1:FRL b env (hold (ps ++ localsOf fd.scope ps) (frame vs c.nl)) ⟨m.σ,m.g,s1⟩:=fn_frame R FO.kind nf hn ndp ev hl (by rw [he]; rfl) (by rw [he]; exact FO.glob) (by rw [he]; exact FO.bi) h3 (by rw [he]; rfl) x
  have R1p:Rel (b.push env) ⟨m.σ,m.g,s1⟩:=R1.push (by
   obtain ⟨_,⟨o,es,ep,e,hd,_⟩,_⟩:=F1.ns
   exact ⟨by rw [F1.st.kind]; exact nofun,env.locals,o,by rw [he]; rfl,(F1.unow _ (.inl rfl)).2,(F1.unow _ (.inl rfl)).1,e,es,ep,hd⟩)
  have own:∀ a,OwnF env a -> m.s.heap.get? a = none:=fun a ha => none_ge (by
   rcases ha with rfl | ⟨y,hy⟩
   ·exact Nat.le_of_eq h3.symm
   ·exact Nat.le_of_lt (h3 ▸ x.above y a (mem_of_lookup' hy)))
  have hs:env.scope = fd.scope:=by rw [he]; rfl
  have HS:ScRel ⟨fd.scope,mu⟩ env:=fun y => .inl (by show env.scope.names.lookup y = _; rw [hs])
  have BB:BOk (b.push env) n (A.deeper env):=⟨B.handled,Around.frames_deeper B.frames,by have:=B.depth; show A.depth + 1 + 4 * n + 2 < 900; lia,by have:=B.units; show A.units + 3 + 16 * n + 112 < cLine; lia⟩
  have SO:StOk ⟨b.push env,n,K,cx,env,ps ++ localsOf fd.scope ps,A.deeper env,⟨m.σ,m.g,s1⟩⟩:=⟨⟨BB,T,hz,hc _,hi _,hp⟩,⟨_,rfl⟩,nd⟩
  rw [cb] at q
  refine wpAny_mono ((compSs ⟨fd.scope,mu⟩ _ 60 body).2 _ SO HS rfl ⟨fun v σ' => Q v (dropF c.drop m.σ v σ'),fun a _ σ' => X a σ'⟩ _ endN ⟨m.σ,m.g,s1⟩ ⟨R1p,F1.push,tk1,StepH.refl⟩ q) (fun fl s2 z => ?_) fun e s2 z => wpAny_mono (fly_out (m:=m) (X:=X) rfl rfl B.frames rfl gr rfl own z) (fun _ _ y => y) fun _ _ y => y.elim
  cases fl with
  | next =>
   obtain ⟨fr,σ,g,q2,Z⟩:=z
   exact drop_ok (m':=⟨σ,g,s2⟩) q2 R Z.R.pop rfl (Z.S.own_new gr own)
  | ret v' =>
   obtain ⟨v,fr,σ,g,q2,Z,e⟩:=z
   exact drop_ok (m':=⟨σ,g,s2⟩) q2 R Z.R.pop e (Z.S.own_new gr own)
  | _ => exact z.elim
end
section
variable {K:Frag} {F:Fns} {pk:Addr -> Bool} {wf:Nat}
theorem runC_run {o:Option CF} {f:CF -> Comp} {Q:V -> St -> Prop} {X:Addr -> St -> Prop} (q:runC o f Q X):∃ c,o = some c /\ f c Q X:=by
 cases o with
 | none => exact q.elim
 | some c => exact ⟨c,rfl,q⟩
theorem run0_ok (HF:∀ f c,F f = some c -> FnOk K f c) {b:Hb} (T:TabOk K b.heap) (hz:SysAt b) (n:Nat):∀ l,CallOk ((b.at l).lv 0) n (run0 F wf n):=by
 induction n with
 | zero => exact fun _ _ _ _ _ _ _ q => q.elim
 | succ n ih =>
  intro l f args kw Q X m q A B vals kvals R ea ek ht
  obtain ⟨c,e,q⟩:=runC_run q
  exact sound_fn (b:=(b.at l).lv 0) (n:=n) (cx:=⟨run0 F wf n,noRun,fun _ => false,wf⟩) T hz ih (fun _ _ e => nomatch e) (fun _ _ => rfl) (HF f c e) q B R ea ek (.inl ht)
theorem run1_fn (HF:∀ f c,F f = some c -> FnOk K f c) {b:Hb} (T:TabOk K b.heap) (hz:SysAt b) {n:Nat} (ih:∀ l,CallOk ((b.at l).lv 1) n (run1 F pk wf n)) (l:List Env) {f:Addr} {args:List V} {kw:List (Str × V)} {Q:V -> St -> Prop} {X:Addr -> St -> Prop} {m:Ms} (q:run1 F pk wf (n + 1) f args kw m.σ Q X) {A:Around} (B:AOk ((b.at l).lv 1) (n + 1) A) {vals:List Value} {kvals:List (Str × Value)}
  (R:Rel ((b.at l).lv 1) m) (ea:VMs m args vals) (ek:KVs (VM m) kw kvals) (ht:1 <= m.s.toks \/ ∃ fd p,FdOk K f fd /\ fd.params.args.map (·.arg) = [p] /\ fd.scope.names.lookup p = some .local):codeAny ((b.at l).lv 1).M A (.call (.ref f) ⟨vals,kvals⟩) (CallP ((b.at l).lv 1) A Q X m) m.s:=by
 obtain ⟨c,e,q⟩:=runC_run q
 exact sound_fn (b:=(b.at l).lv 1) (n:=n) (cx:=⟨run1 F pk wf n,run0 F wf n,pk,wf⟩) T hz ih (fun l k e => by cases e; exact run0_ok HF T hz n l) (fun e => nomatch e) (HF f c e) q B R ea ek ht
theorem run1_ok (HF:∀ f c,F f = some c -> FnOk K f c) {b:Hb} (T:TabOk K b.heap) (hz:SysAt b) (n:Nat):∀ l,CallOk ((b.at l).lv 1) n (run1 F pk wf n):=by
 induction n with
 | zero => exact fun _ _ _ _ _ _ _ q => q.elim
 | succ n ih => exact fun l f args kw Q X m q A B vals kvals R ea ek ht => run1_fn HF T hz ih l q B R ea ek (.inl ht)
end
theorem all_lookup {κ α:Type} [BEq κ] [LawfulBEq κ] {p:κ × α -> Bool} {l:List (κ × α)} {x:κ} {v:α} (h:l.all p = true) (e:l.lookup x = some v):p (x,v) = true:=List.all_eq_true.mp h _ (mem_of_lookup' e)
theorem mg_none {K:Frag} {h:Heap} {mg:Str -> Option Value} {x:Str} (X:K.In h) (G:h.Ns mainGlobals mg) (e:nsIn K mainGlobals x = some none):mg x = none:=by
 obtain ⟨o,es,ep,ho,hd,_,hf⟩:=G
 unfold nsIn at e
 cases q:K.lookup mainGlobals with
 | none => rw [q] at e; cases e
 | some o' =>
  rw [q] at e
  have:=X _ _ q
  rw [ho] at this
  cases this
  obtain ⟨_,_,d,_⟩:=o
  cases hd
  have e:(match es.toList.find? (·.key.isStr x) with | some e => some (some e.val) | none => if es.toList.any (·.refKey) then none else some none) = some none:=e
  cases z:es.toList.find? (·.key.isStr x) with
  | some _ => rw [z] at e; cases e
  | none =>
   rw [<- hf]
   unfold nsFind findBy
   rw [<- Array.find?_toList,z]
   rfl
noncomputable def glB (K:Frag) (q:Str × GV):Bool:=match q.2 with
 | .fn a => decide (nsIn K mainGlobals q.1 = some (some (.ref a))) && keepIn K (.ref a)
 | .cls a => decide (nsIn K mainGlobals q.1 = some (some (.ref a))) && keepIn K (.ref a)
 | .const _ => true
 | .bf f => decide (nsIn K mainGlobals q.1 = some none) && decide (q.1 ≠ "__name__") && decide (bootBuiltins q.1 = some f.val)
noncomputable def conP (K:Frag) (q:Str × GV):Prop:=match q.2 with
 | .const v => ∃ y,nsIn K mainGlobals q.1 = some (some y) /\ ∀ h,K.In h -> GVIs h (.const v) y
 | _ => True
noncomputable def allP {α:Type} (p:α -> Prop):List α -> Prop
 | [] => True
 | x :: r => p x /\ allP p r
theorem allP_mem {α:Type} {p:α -> Prop} {l:List α} {x:α} (h:allP p l) (m:x ∈ l):p x:=by
 induction m with
 | head => exact h.1
 | tail _ _ ih => exact ih h.2
theorem glB_ok {K:Frag} {hb:Heap} {mg mb:Str -> Option Value} (X:K.In hb) (n1:hb.Ns mainGlobals mg) (b:∀ x:Str,x ≠ "__name__" -> mb x = bootBuiltins x) {x:Str} {gv:GV} (h:glB K (x,gv) = true) (hc:conP K (x,gv)):∃ v,AtGl mg mb x v /\ GVIs hb gv v:=by
 cases gv with
 | fn a => exact ⟨_,.inl (mg_of X n1 (of_decide_eq_true (Bool.and_eq_true_iff.mp h).1)),rfl⟩
 | cls a => exact ⟨_,.inl (mg_of X n1 (of_decide_eq_true (Bool.and_eq_true_iff.mp h).1)),rfl⟩
 | const v =>
  obtain ⟨y,e,h⟩:=hc
  exact ⟨y,.inl (mg_of X n1 e),h _ X⟩
 | bf f =>
  obtain ⟨h1,h2,h3⟩:=and3 h
  exact ⟨_,.inr ⟨mg_none X n1 (of_decide_eq_true h1),(b x (of_decide_eq_true h2)).trans (of_decide_eq_true h3)⟩,rfl⟩
noncomputable abbrev clsP (K:Frag) (C:Addr):Prop:=findIn K (.ref C) "__getattribute__" = some (some (.builtin "object.__getattribute__")) /\ findIn K (.ref C) "__getattr__" = some none /\ findIn K (.ref C) "__setattr__" = some (some (.builtin "object.__setattr__")) /\ plainOver K C = true /\ (clsIn K C).any (·.hasDict) = true
theorem cls_ok {K:Frag} {C:Addr} (h:clsP K C):ClsOk K C:=⟨h.1,h.2.1,h.2.2.1,h.2.2.2.1,h.2.2.2.2⟩
noncomputable def attrB (K:Frag) (q:Str × List Addr):Bool:=q.2.all fun c => decide (clsP K c /\ findIn K (.ref c) q.1 = some none /\ copiedNames.contains q.1 = false)
noncomputable def methB (K:Frag) (q:Str × List (Addr × Addr)):Bool:=q.2.all fun z => decide (clsP K z.1 /\ findIn K (.ref z.1) q.1 = some (some (.ref z.2)) /\ typeIn K (.ref z.2) = some (.type "function") /\ keepIn K (.ref z.2) = true)
noncomputable def initB (K:Frag) (q:Addr × Addr):Bool:=decide (makesIn K q.1 = true /\ findIn K (.ref q.1) "__init__" = some (some (.ref q.2)) /\ typeIn K (.ref q.2) = some (.type "function"))
structure Chk (K:Frag):Prop where
 gl:tabGl.all (glB K) = true
 at_:tabAttr.all (attrB K) = true
 me:tabMeth.all (methB K) = true
 ini:tabInit.all (initB K) = true
 ex:decide (nsIn K mainGlobals "Exception" = some none /\ bootBuiltins "Exception" = some (.type "Exception")) = true
 con:allP (conP K) tabGl
 e1:ExcOk K 51
 e2:ExcOk K 63
theorem gl_keep {K:Frag} {x:Str} {a:Addr} (h:glB K (x,.fn a) = true \/ glB K (x,.cls a) = true):keepIn K (.ref a) = true:=h.elim (fun h => (Bool.and_eq_true_iff.mp h).2) fun h => (Bool.and_eq_true_iff.mp h).2
theorem tab_ok {K:Frag} {hb:Heap} {mg mb:Str -> Option Value} (C:Chk K) (X:K.In hb) (hl:hb.NoLimit) (n1:hb.Ns mainGlobals mg) (n2:hb.Ns builtinsNs mb) (b:∀ x:Str,x ≠ "__name__" -> mb x = bootBuiltins x):TabOk K hb where
 inK:=X
 lim:=hl
 gl:=⟨mg,mb,n1,n2,fun x gv h => glB_ok X n1 b (all_lookup C.gl h) (allP_mem C.con (mem_of_lookup' h)),by
  obtain ⟨h1,h2⟩:=of_decide_eq_true C.ex
  exact .inr ⟨mg_none X n1 h1,(b _ (by decide)).trans h2⟩⟩
 keepF:=fun x a h => gl_keep (x:=x) (.inl (all_lookup C.gl h))
 keepC:=fun x a h => gl_keep (x:=x) (.inr (all_lookup C.gl h))
 attr:=fun x cs h c hc => by
  obtain ⟨h1,h2,h3⟩:=of_decide_eq_true (List.all_eq_true.mp (all_lookup C.at_ h) c (List.contains_iff_mem.mp hc))
  exact ⟨cls_ok h1,h2,h3⟩
 meth:=fun n ms h c f hc => by
  obtain ⟨h1,h2,h3,h4⟩:=of_decide_eq_true (List.all_eq_true.mp (all_lookup C.me h) (c,f) (mem_of_lookup' hc))
  exact ⟨cls_ok h1,h2,h3,h4⟩
 init:=fun c f h => by
  obtain ⟨h1,h2,h3⟩:=of_decide_eq_true (all_lookup C.ini h)
  exact ⟨h1,h2,h3⟩
 exc:=fun c h => by
  have:=List.contains_iff_mem.mp h
  cases this with
  | head => exact C.e1
  | tail _ h =>
   cases h with
   | head => exact C.e2
   | tail _ h => cases h
noncomputable def fdAt (K:Frag) (f:Addr):FuncData:=match K.lookup f with
 | some o => match o.data with
  | .func fd => fd
  | _ => default
 | none => default
noncomputable def psAt (fd:FuncData):List Str:=fd.params.args.map (·.arg)
noncomputable def stAt (fd:FuncData):List Stmt:=match fd.body with
 | .stmts b => b
 | _ => []
noncomputable def muTab:List (Addr × List Str):=[(122,["found","wanted"]),(142,["found","left"]),(250,["others","found"]),(547,["return"]),(575,["pairs"]),(589,["found"]),(615,["elements"]),(625,["left"])]
noncomputable def codeOf (K:Frag) (f:Addr):CSs:=(compSs ⟨(fdAt K f).scope,(muTab.lookup f).getD []⟩ (psAt (fdAt K f) ++ localsOf (fdAt K f).scope (psAt (fdAt K f))) 60 (stAt (fdAt K f))).1
noncomputable def lsAt (fd:FuncData):List Str:=psAt fd ++ localsOf fd.scope (psAt fd)
noncomputable def fnA (K:Frag) (q:Addr × CF):Bool:=decide ((fdAt K q.1).globals = mainGlobals /\ (fdAt K q.1).builtins = builtinsNs /\ (fdAt K q.1).closure = [] /\ codeIn K (fdAt K q.1).code (fdAt K q.1).qualname = true)
noncomputable def isSts:FuncBody -> Bool
 | .stmts _ => true
 | _ => false
noncomputable def fnB (K:Frag) (q:Addr × CF):Bool:=decide ((fdAt K q.1).scope.kind = .function /\ (fdAt K q.1).scope.isCoroutine = false /\ (fdAt K q.1).scope.isGenerator = false /\ isSts (fdAt K q.1).body = true)
noncomputable def fnC (K:Frag) (q:Addr × CF):Bool:=decide (((fdAt K q.1).scope.names.all fun p => decide (p.2 ≠ .free)) = true /\ ((psAt (fdAt K q.1)).all fun x => decide ((fdAt K q.1).scope.names.lookup x = some .local \/ (fdAt K q.1).scope.names.lookup x = some .cell)) = true /\ keysNd (lsAt (fdAt K q.1)) = true /\ q.2.np = (psAt (fdAt K q.1)).length) &&
 (q.2.df.isEmpty || [142,286,315].contains q.1)
structure DfOk (K:Frag) (fd:FuncData) (p1 p2 p3:Str) (c:Bool):Prop where
 ps:psAt fd = [p1,p2,p3]
 h2:∀ S x y,peek K S (bindArgs fd ⟨[x,y],[]⟩) = some [(p1,x),(p2,y),(p3,.bool c)]
 hk:∀ S x y z,peek K S (bindArgs fd ⟨[x,y],[(p3,z)]⟩) = some [(p1,x),(p2,y),(p3,z)]
inductive DfAt (K:Frag) (fd:FuncData) (c:CF):Prop
 | no (h:c.df = [])
 | df (p1 p2:Str) (v:Bool) (h:c.df = [.bool v]) (D:DfOk K fd p1 p2 c.last v)
theorem two_len {l:List Value} (h:l.length = 2):∃ x y,l = [x,y]:=by
 cases l with
 | nil => cases h
 | cons x r =>
  cases r with
  | nil => cases h
  | cons y r => exact ⟨x,y,by rw [List.length_eq_zero_iff.mp (Nat.succ.inj (Nat.succ.inj h))]⟩
theorem bind_ok {K:Frag} {fd:FuncData} {c:CF} (B:PB K fd (psAt fd) c.np []) (hn:c.np = (psAt fd).length) (D:DfAt K fd c):BindOk K fd (psAt fd) c:=by
 intro s U T args vs kw vals kvals X q ea ek
 have two:∀ {k:Nat} {p1 p2 p3:Str},psAt fd = [p1,p2,p3] -> k + 1 = c.np -> args.length = k -> args.length = 2 /\ ∃ x y,vals = [x,y]:=fun {k p1 p2 p3} e h e2 => by
  rw [hn,e] at h
  have h2:=e2.trans (Nat.succ.inj h)
  exact ⟨h2,two_len (ea.length.trans h2)⟩
 cases kw with
 | nil =>
  cases ek
  have q:(if args.length = c.np then some args else if args.length + c.df.length = c.np then some (args ++ c.df) else none) = some vs:=q
  by_cases h:args.length = c.np
  ·rw [if_pos h] at q
   cases q
   exact ⟨vals,B.binds X (ea.length.trans h),ea,h.trans hn⟩
  ·rw [if_neg h] at q
   cases D with
   | no e => rw [e,if_neg (show ¬ (args.length + ([]:List V).length = c.np) from h)] at q; cases q
   | df p1 p2 v e D =>
    rw [e] at q
    by_cases h2:args.length + [V.bool v].length = c.np
    ·rw [if_pos h2] at q
     cases q
     obtain ⟨h3,x,y,rfl⟩:=two D.ps h2 rfl
     rw [D.ps]
     exact ⟨[x,y,.bool v],binds_of X fun S => D.h2 S x y,VRs.append (m:=[.bool v]) ea ⟨_,_,rfl,rfl⟩,by rw [List.length_append,h3]; rfl⟩
    ·rw [if_neg h2] at q; cases q
 | cons p r =>
  cases r with
  | cons _ _ => cases q
  | nil =>
   obtain ⟨x,u⟩:=p
   have q:(if args.length + 1 = c.np /\ x = c.last /\ c.df.length = 1 then some (args ++ [u]) else none) = some vs:=q
   by_cases h:args.length + 1 = c.np /\ x = c.last /\ c.df.length = 1
   ·rw [if_pos h] at q
    cases q
    obtain ⟨h1,rfl,h3⟩:=h
    cases D with
    | no e => rw [e] at h3; cases h3
    | df p1 p2 v e D =>
     obtain ⟨z,_,ez,er⟩:=ek
     cases er
     obtain ⟨h3,y1,y2,rfl⟩:=two D.ps h1 rfl
     rw [D.ps]
     exact ⟨[y1,y2,z],binds_of X fun S => D.hk S y1 y2 z,VRs.append (m:=[z]) ea ⟨_,_,ez,rfl⟩,by rw [List.length_append,h3]; rfl⟩
   ·rw [if_neg h] at q; cases q
theorem fn_ok {K:Frag} {f:Addr} {c:CF} (hf:(K.lookup f).map (·.data) = some (.func (fdAt K f))) (hA:fnA K (f,c) = true) (hB:fnB K (f,c) = true) (hC:fnC K (f,c) = true) (hc:codeOf K f = c.body) (B:PB K (fdAt K f) (psAt (fdAt K f)) c.np []) (D:[142,286,315].contains f = true -> DfAt K (fdAt K f) c):FnOk K f c:=by
 obtain ⟨a1,a2,a3,a4⟩:=of_decide_eq_true hA
 obtain ⟨b1,b2,b3,b4⟩:=of_decide_eq_true hB
 obtain ⟨hC,hd⟩:=Bool.and_eq_true_iff.mp hC
 obtain ⟨c1,c2,c3,c4⟩:=of_decide_eq_true hC
 refine ⟨fdAt K f,stAt (fdAt K f),_,_,⟨Option.map_eq_some_iff.mp hf,a1,a2,a3,a4,b1,b2,b3⟩,rfl,?_,hc.symm,keysNd_nodup c3,fun p hp => of_decide_eq_true (List.all_eq_true.mp c1 p hp),fun x hx => of_decide_eq_true (List.all_eq_true.mp c2 x hx),bind_ok B c4 ((Bool.or_eq_true_iff.mp hd).elim (fun h => .no (List.isEmpty_iff.mp h)) D)⟩
 unfold stAt
 cases q:(fdAt K f).body with
 | stmts b => rfl
 | _ => rw [q] at b4; cases b4
noncomputable def pbP (K:Frag) (q:Addr × CF):Prop:=PB K (fdAt K q.1) (psAt (fdAt K q.1)) q.2.np []
structure Gnd (K:Frag):Prop where
 chk:Chk K
 ff:(fnsL.map fun q => (K.lookup q.1).map (·.data)) = fnsL.map fun q => some (.func (fdAt K q.1))
 fa:fnsL.all (fnA K) = true
 fb:fnsL.all (fnB K) = true
 fc:fnsL.all (fnC K) = true
 b0:allP (pbP K) fnsL0
 b1:allP (pbP K) fnsL1
 b2:allP (pbP K) fnsL2
 b3:allP (pbP K) fnsL3
 c0:(fnsL0.map fun q => codeOf K q.1) = fnsL0.map fun q => q.2.body
 c1:(fnsL1.map fun q => codeOf K q.1) = fnsL1.map fun q => q.2.body
 c2:(fnsL2.map fun q => codeOf K q.1) = fnsL2.map fun q => q.2.body
 c3:(fnsL3.map fun q => codeOf K q.1) = fnsL3.map fun q => q.2.body
 d1:DfOk K (fdAt K 142) "tree" "node" "declaration" false
 d2:DfOk K (fdAt K 286) "self" "name" "is_attribute" false
 d3:DfOk K (fdAt K 315) "tree" "events" "with_names" true
 p4:psAt (fdAt K 644) = [("script":Str)]
 pl:(fdAt K 644).scope.names.lookup ("script":Str) = some NameKind.local
theorem Gnd.fn {K:Frag} (G:Gnd K) (f:Addr) (c:CF) (h:fns f = some c):FnOk K f c:=by
 have hm:(f,c) ∈ fnsL:=mem_of_lookup' h
 have at_:=fun h1 h2 => fn_ok (List.map_inj_left.mp G.ff _ hm) (List.all_eq_true.mp G.fa _ hm) (List.all_eq_true.mp G.fb _ hm) (List.all_eq_true.mp G.fc _ hm) h1 h2 fun hd => by
  cases List.contains_iff_mem.mp hd with
  | head => cases (show fns 142 = some c142 from rfl).symm.trans h; exact .df _ _ _ rfl G.d1
  | tail _ hd =>
   cases hd with
   | head => cases (show fns 286 = some c286 from rfl).symm.trans h; exact .df _ _ _ rfl G.d2
   | tail _ hd =>
    cases hd with
    | head => cases (show fns 315 = some c315 from rfl).symm.trans h; exact .df _ _ _ rfl G.d3
    | tail _ hd => cases hd
 rcases List.mem_append.mp hm with hm | hm
 ·rcases List.mem_append.mp hm with hm | hm
  ·rcases List.mem_append.mp hm with hm | hm
   ·exact at_ (List.map_inj_left.mp G.c0 _ hm) (allP_mem (p:=pbP K) G.b0 hm)
   ·exact at_ (List.map_inj_left.mp G.c1 _ hm) (allP_mem (p:=pbP K) G.b1 hm)
  ·exact at_ (List.map_inj_left.mp G.c2 _ hm) (allP_mem (p:=pbP K) G.b2 hm)
 ·exact at_ (List.map_inj_left.mp G.c3 _ hm) (allP_mem (p:=pbP K) G.b3 hm)
theorem fdAt_eq {K:Frag} {f:Addr} {fd:FuncData} (F:FdOk K f fd):fdAt K f = fd:=by
 obtain ⟨o,e1,e2⟩:=F.ex
 unfold fdAt
 rw [e1]
 obtain ⟨_,_,_,_⟩:=o
 cases e2
 rfl
theorem vrs_ints {h:Heap} {U:Addr -> Prop} {R:Nat -> Value -> Prop} {vs:List Value} {ns:List Int} (e:IntsAre vs ns):VRs h U R (ns.map .int) vs:=by
 induction e with
 | nil => rfl
 | cons n t r ih => exact ⟨_,_,⟨t⟩,ih⟩
theorem law_run {K:Frag} (G:Gnd K) {w:World} {s:Shared} {mg mb:Str -> Option Value} (X:K.In s.heap) (g:s.heap.Ns mainGlobals mg) (b:s.heap.Ns builtinsNs mb) (hl:s.heap.NoLimit) (hb:∀ x:Str,x ≠ "__name__" -> mb x = bootBuiltins x) (hs:∃ o,s.heap.get? sysModules = some o)
  {a:Addr} {vs:List Value} {ns:List Int} (hL:s.heap.PlainList a vs.toArray) (hI:IntsAre vs ns) {wf:Nat} (hr:R1 wf 21 644 [.lst (ns.map .int)] [] [] (fun v _ => v = .bool true) fun _ _ => False) :
  wpAny (model Pg w) callerA (PySem.call (.ref 644) [.ref a]) (fun v s' => v = .bool true /\ (∀ b o,s.heap.get? b = some o -> s'.heap.get? b = some o) /\ (sio s') = (sio s)) (fun _ _ => False) s:=by
 have T:TabOk K s.heap:=tab_ok G.chk X hl g b hb
 unfold R1 at hr
 have R:Rel ⟨s.heap,(sio s),[],w,1⟩ ⟨[],⟨0,fun _ => 0,fun _ _ => False,fun _ => False⟩,s⟩:=⟨rfl,(fun i c e => nomatch e),fun i j x hi => absurd hi (Nat.not_lt_zero _),fun _ _ e => e,fun i x hi => absurd hi (Nat.not_lt_zero _),fun _ q => q.elim,fun i x hi => absurd hi (Nat.not_lt_zero _),rfl,(fun _ h => nomatch h)⟩
 obtain ⟨fd,_,_,_,FO,_⟩:=(G.fn 644 c644 rfl).ex
 have hfd:=fdAt_eq FO
 have hp:=G.p4
 have hq:=G.pl
 rw [hfd] at hp hq
 have run:=run1_fn (b:=⟨s.heap,(sio s),[],w,1⟩) G.fn T hs (run1_ok (b:=⟨s.heap,(sio s),[],w,1⟩) G.fn T hs 20) [] (m:=⟨[],⟨0,fun _ => 0,fun _ _ => False,fun _ => False⟩,s⟩) (f:=644) (A:=callerA) hr ⟨rfl,rfl,by decide,by decide⟩ (vals:=[.ref a]) (kvals:=[]) R ⟨_,_,⟨a,vs.toArray,⟨fun _ hi => absurd hi (Nat.not_lt_zero _),id⟩,hL,vrs_ints hI⟩,rfl⟩ rfl (.inr ⟨_,_,FO,hp,hq⟩)
 ·refine wpAny_call (codeAny_mono run fun r s' z => ?_)
  cases r with
  | error x => obtain ⟨_,_,_,_,z,_⟩:=z; exact z.elim
  | ok fl =>
   cases fl with
   | ret v' =>
    obtain ⟨v,σ,g',q,R',ev,_⟩:=z
    subst q
    exact ⟨ev,R'.base,R'.ios⟩
   | _ => exact z.elim
set_option maxHeartbeats 8000000
theorem hd.tw16640546478005224243:True:=⟨⟩
theorem hd.tw4706079058837389440:True:=⟨⟩
theorem hd.tw14438451200097066615:True:=⟨⟩
theorem hd.tw12940713784782232206:True:=⟨⟩
theorem hd.tw15578025631644234493:True:=⟨⟩
theorem hd.tw3795277891434052102:True:=⟨⟩
theorem hd.tw5238241317806426387:True:=⟨⟩
theorem hd.tw5549315172176941698:True:=⟨⟩
theorem hd.tw6547078798241139092:True:=⟨⟩
theorem hd.tw9533747618267967006:True:=⟨⟩
theorem hd.tw4315991029959535628:True:=⟨⟩
theorem hd.tw17650839729002327288:True:=⟨⟩
theorem hd.tw3694398316872202419:True:=⟨⟩
theorem hd.tw16154546982801380032:True:=⟨⟩
theorem hd.tw7152984921513172624:True:=⟨⟩
theorem hd.tw13315533130655954831:True:=⟨⟩
theorem hd.tw11256106856564762260:True:=⟨⟩
theorem hd.tw8381844023166312768:True:=⟨⟩
theorem hd.tw10117440562283002822:True:=⟨⟩
theorem hd.tw1800889605409440832:True:=⟨⟩
theorem hd.tw10170382586518783626:True:=⟨⟩
theorem hd.tw4367231431732253908:True:=⟨⟩
theorem hd.tw8242931771332617035:True:=⟨⟩
theorem hd.tw9013056391748086436:True:=⟨⟩
theorem hd.tw6627881031435992008:True:=⟨⟩
theorem hd.tw12127338746724423809:True:=⟨⟩
theorem hd.tw7598622570094877466:True:=⟨⟩
theorem hd.tw4851647983119433812:True:=⟨⟩
theorem hd.tw11513968764499736323:True:=⟨⟩
theorem hd.tw11232374478483605306:True:=⟨⟩
theorem hd.tw13285133528070534704:True:=⟨⟩
theorem hd.tw14991384322417631237:True:=⟨⟩
theorem hd.tw2951005344575393816:True:=⟨⟩
theorem hd.tw16299908979028503884:True:=⟨⟩
theorem hd.tw14457593812595234344:True:=⟨⟩
theorem hd.tw14960593345356199642:True:=⟨⟩
theorem hd.tw5343241284826551009:True:=⟨⟩
theorem hd.tw7120233287515763914:True:=⟨⟩
theorem hd.tw2323474266016966308:True:=⟨⟩
theorem hd.tw6320253292602491972:True:=⟨⟩
theorem hd.tw5009564483982726761:True:=⟨⟩
theorem hd.tw4702841417184801058:True:=⟨⟩
theorem hd.tw4115565904173853331:True:=⟨⟩
theorem hd.tw2739504486584576224:True:=⟨⟩
theorem hd.tw10949625832625181284:True:=⟨⟩
theorem hd.tw15367242080415987702:True:=⟨⟩
theorem hd.tw2845679848157327705:True:=⟨⟩
theorem hd.tw11660266114150955751:True:=⟨⟩
theorem hd.tw6276725880618359904:True:=⟨⟩
theorem hd.tw10784824025267889561:True:=⟨⟩
theorem hd.tw12744807935193187038:True:=⟨⟩
theorem hd.tw9277588360372424766:True:=⟨⟩
theorem hd.tw5247051413645994129:True:=⟨⟩
theorem hd.tw6442067068224118133:True:=⟨⟩
theorem hd.tw11079593142295127227:True:=⟨⟩
theorem hd.tw11631947586910100387:True:=⟨⟩
theorem hd.tw10603584201595350602:True:=⟨⟩
theorem hd.tw15948780112781908787:True:=⟨⟩
theorem hd.tw14980023328507725902:True:=⟨⟩
theorem hd.tw14705683404202351889:True:=⟨⟩
theorem hd.tw10024716035694756283:True:=⟨⟩
theorem hd.tw9731375825926819010:True:=⟨⟩
theorem hd.tw13929354066492186541:True:=⟨⟩
theorem hd.tw10788059911547816233:True:=⟨⟩
theorem hd.tw2068664650715991707:True:=⟨⟩
theorem hd.tw4478166936697009375:True:=⟨⟩
theorem hd.tw3941438180925939637:True:=⟨⟩
theorem hd.tw16722109127936396110:True:=⟨⟩
theorem hd.tw6123773746684550334:True:=⟨⟩
theorem hd.tw4993660671451451078:True:=⟨⟩
theorem hd.tw12070654863422294720:True:=⟨⟩
theorem hd.tw14852329139284432860:True:=⟨⟩
theorem hd.tw8356816923877370021:True:=⟨⟩
theorem hd.tw1589133516308662214:True:=⟨⟩
theorem hd.tw9406673726873002282:True:=⟨⟩
theorem hd.tw12629568148972539762:True:=⟨⟩
theorem hd.tw6755925336976613232:True:=⟨⟩
theorem hd.tw5608270528595127837:True:=⟨⟩
theorem hd.tw5283464899586487735:True:=⟨⟩
theorem hd.tw1836080755315867724:True:=⟨⟩
theorem hd.tw5433107678231618845:True:=⟨⟩
theorem hd.tw4272726840584523970:True:=⟨⟩
theorem hd.tw2274498078352570744:True:=⟨⟩
theorem hd.tw6411954120941647267:True:=⟨⟩
theorem hd.tw14560493823538711346:True:=⟨⟩
theorem hd.tw10264135568141901301:True:=⟨⟩
theorem hd.tw1013155817946168525:True:=⟨⟩
theorem hd.tw6449127861642672459:True:=⟨⟩
theorem hd.tw12113243949977362033:True:=⟨⟩
theorem hd.tw8538877666451538035:True:=⟨⟩
theorem hd.tw2252305205657439004:True:=⟨⟩
theorem hd.tw8228950375871286339:True:=⟨⟩
theorem hd.tw12832683148521936107:True:=⟨⟩
theorem hd.tw1610171440888473627:True:=⟨⟩
theorem hd.tw1580110805410547442:True:=⟨⟩
theorem hd.tw6615107907471364465:True:=⟨⟩
theorem hd.tw2391449824757734642:True:=⟨⟩
theorem hd.tw100483095206116625:True:=⟨⟩
theorem hd.tw6394381022753523788:True:=⟨⟩
theorem hd.tw5480042469492414594:True:=⟨⟩
theorem hd.tw17062030032774818151:True:=⟨⟩
theorem hd.tw6305734824756694309:True:=⟨⟩
theorem hd.tw2708950531961675432:True:=⟨⟩
theorem hd.tw11551083187376567056:True:=⟨⟩
theorem hd.tw10424393626065333798:True:=⟨⟩
theorem hd.tw18103342009636024947:True:=⟨⟩
theorem hd.tw442638132926106271:True:=⟨⟩
theorem hd.tw6957150274394394060:True:=⟨⟩
theorem hd.tw6136932545381038964:True:=⟨⟩
theorem hd.tw6785817131721698500:True:=⟨⟩
theorem hd.tw9990345226319884068:True:=⟨⟩
theorem hd.tw5486487638281291605:True:=⟨⟩
theorem hd.tw15416985209724490359:True:=⟨⟩
theorem hd.tw2855845756224970109:True:=⟨⟩
theorem hd.tw15675198926951892251:True:=⟨⟩
theorem hd.tw15813434630575017362:True:=⟨⟩
theorem hd.tw17925215291927510665:True:=⟨⟩
theorem hd.tw6038821095411175016:True:=⟨⟩
theorem hd.tw13893168526513508166:True:=⟨⟩
theorem hd.tw15643275761693703936:True:=⟨⟩
theorem hd.tw18268791191939849864:True:=⟨⟩
theorem hd.tw17919194246423945575:True:=⟨⟩
theorem hd.tw17562767543260142214:True:=⟨⟩
theorem hd.tw876933089483189297:True:=⟨⟩
theorem hd.tw920214292312260371:True:=⟨⟩
theorem hd.tw7494724483528729301:True:=⟨⟩
theorem hd.tw1563692795949630186:True:=⟨⟩
theorem hd.tw5781342201191254626:True:=⟨⟩
theorem hd.tw5373601922739893978:True:=⟨⟩
theorem hd.tw11893437276241958245:True:=⟨⟩
theorem hd.tw17130151131035750659:True:=⟨⟩
theorem hd.tw12575139184659369484:True:=⟨⟩
theorem hd.tw8609351116199087170:True:=⟨⟩
theorem hd.tw13220430256171166289:True:=⟨⟩
theorem hd.tw4182648748547736412:True:=⟨⟩
theorem hd.tw14768889098011018680:True:=⟨⟩
theorem hd.tw4643362625855044894:True:=⟨⟩
theorem hd.tw15610959940260225430:True:=⟨⟩
theorem hd.tw16919406825032445293:True:=⟨⟩
theorem hd.tw7028611270464810887:True:=⟨⟩
theorem hd.tw18103420901670897651:True:=⟨⟩
theorem hd.tw12173100003817136821:True:=⟨⟩
theorem hd.tw5961118342813265553:True:=⟨⟩
theorem hd.tw17387473266821786944:True:=⟨⟩
theorem hd.tw17711083657039698284:True:=⟨⟩
theorem hd.tw8301035370665394634:True:=⟨⟩
theorem hd.tw17054507655720011243:True:=⟨⟩
theorem hd.tw15642763164714097627:True:=⟨⟩
theorem hd.tw16945582573551092051:True:=⟨⟩
theorem hd.tw9449672872311958731:True:=⟨⟩
theorem hd.tw17213754286329925777:True:=⟨⟩
theorem hd.tw2783992281797965187:True:=⟨⟩
theorem hd.tw8671608845466749128:True:=⟨⟩
theorem hd.tw6528754448969337418:True:=⟨⟩
theorem hd.tw16649331688326792143:True:=⟨⟩
theorem hd.tw1382963296337349011:True:=⟨⟩
theorem hd.tw11652457597714270106:True:=⟨⟩
theorem hd.tw13828106393651249627:True:=⟨⟩
theorem hd.tw4297731678662094536:True:=⟨⟩
theorem hd.tw12936449754285732098:True:=⟨⟩
theorem hd.tw1865391376527767206:True:=⟨⟩
theorem hd.tw22551697357593593:True:=⟨⟩
theorem hd.tw14772383043592177042:True:=⟨⟩
theorem hd.tw5416991563250132298:True:=⟨⟩
theorem hd.tw4225703048834024713:True:=⟨⟩
theorem hd.tw15527848837575444561:True:=⟨⟩
theorem hd.tw1439246655266547700:True:=⟨⟩
theorem hd.tw18219297243305740317:True:=⟨⟩
theorem hd.tw15790720579355451973:True:=⟨⟩
theorem hd.tw12023040214023829324:True:=⟨⟩
theorem hd.tw1588505670450824345:True:=⟨⟩
theorem hd.tw15103106377680225435:True:=⟨⟩
theorem hd.tw8977307856219701671:True:=⟨⟩
theorem hd.tw17542962492245011380:True:=⟨⟩
theorem hd.tw13267510147771200024:True:=⟨⟩
theorem hd.tw2167537188350426706:True:=⟨⟩
theorem hd.tw1997569388931296116:True:=⟨⟩
theorem hd.tw15213948185873263833:True:=⟨⟩
theorem hd.tw7519716089354478335:True:=⟨⟩
theorem hd.tw17447410573909459338:True:=⟨⟩
theorem hd.tw1222794163293265305:True:=⟨⟩
theorem hd.tw18241275227582772068:True:=⟨⟩
theorem hd.tw978945382295711627:True:=⟨⟩
theorem hd.tw6482722132109649516:True:=⟨⟩
theorem hd.tw8343274005884668182:True:=⟨⟩
theorem hd.tw8727321023445011275:True:=⟨⟩
theorem hd.tw9421340871869096474:True:=⟨⟩
theorem hd.tw6293948785866598258:True:=⟨⟩
theorem hd.tw7023726343779634624:True:=⟨⟩
theorem hd.tw9386895884608548742:True:=⟨⟩
theorem hd.tw10246146449241189800:True:=⟨⟩
theorem hd.tw3571134770919094901:True:=⟨⟩
theorem hd.tw17893044597097874663:True:=⟨⟩
theorem hd.tw17183224562656869120:True:=⟨⟩
theorem hd.tw2887051446865420828:True:=⟨⟩
theorem hd.tw10403243965636340961:True:=⟨⟩
theorem hd.tw16007149819294483003:True:=⟨⟩
theorem hd.tw14478148883734587675:True:=⟨⟩
theorem hd.tw5902613922787404954:True:=⟨⟩
theorem hd.tw2386827423013361158:True:=⟨⟩
theorem hd.tw9566141503761928105:True:=⟨⟩
theorem hd.tw17076082267592564974:True:=⟨⟩
theorem hd.tw14620637471214046174:True:=⟨⟩
theorem hd.tw12414669353804360901:True:=⟨⟩
theorem hd.tw7793673504863384051:True:=⟨⟩
theorem hd.tw17471934795394947791:True:=⟨⟩
theorem hd.tw1452849714261714991:True:=⟨⟩
theorem hd.tw14353793391729792155:True:=⟨⟩
theorem hd.tw5318216170032084099:True:=⟨⟩
theorem hd.tw17420951861521290806:True:=⟨⟩
theorem hd.tw5363564295841288755:True:=⟨⟩
theorem hd.tw8684328023851190084:True:=⟨⟩
theorem hd.tw16794629799341752650:True:=⟨⟩
theorem hd.tw11011131195910976488:True:=⟨⟩
theorem hd.tw6423634429210846174:True:=⟨⟩
theorem hd.tw4817003022231809500:True:=⟨⟩
theorem hd.tw5282504435634884242:True:=⟨⟩
theorem hd.tw461538923250603899:True:=⟨⟩
theorem hd.tw7540741092611519060:True:=⟨⟩
theorem hd.tw5732804406350252772:True:=⟨⟩
theorem hd.tw13342606739435360313:True:=⟨⟩
theorem hd.tw17454471701868102899:True:=⟨⟩
theorem hd.tw5562173858411828344:True:=⟨⟩
theorem hd.tw7891253978561527248:True:=⟨⟩
theorem hd.tw15083628210047938546:True:=⟨⟩
theorem hd.tw6046454685291232161:True:=⟨⟩
theorem hd.tw12092154237167983948:True:=⟨⟩
theorem hd.tw13066319289922817542:True:=⟨⟩
theorem hd.tw9641152695372364146:True:=⟨⟩
theorem hd.tw16006246977917349235:True:=⟨⟩
theorem hd.tw16302227732802510677:True:=⟨⟩
theorem hd.tw7510230149288206974:True:=⟨⟩
theorem hd.tw16053994301053490033:True:=⟨⟩
theorem hd.tw1088296927520436173:True:=⟨⟩
theorem hd.tw5245234834050458271:True:=⟨⟩
theorem hd.tw10752148897807903841:True:=⟨⟩
theorem hd.tw17588044629489971554:True:=⟨⟩
theorem hd.tw5592360268479517082:True:=⟨⟩
theorem hd.tw13903934854276604550:True:=⟨⟩
theorem hd.tw16332348944364537037:True:=⟨⟩
theorem hd.tw9325612240067072397:True:=⟨⟩
theorem hd.tw6998783941825042932:True:=⟨⟩
theorem hd.tw12058812876911547015:True:=⟨⟩
theorem hd.tw11249132867342737325:True:=⟨⟩
theorem hd.tw190519026028168232:True:=⟨⟩
theorem hd.tw2000490053193787569:True:=⟨⟩
theorem hd.tw5148922909946612681:True:=⟨⟩
theorem hd.tw2502866573005156581:True:=⟨⟩
theorem hd.tw2457190517430149469:True:=⟨⟩
theorem hd.tw7354087734392854552:True:=⟨⟩
theorem hd.tw6838551448383532254:True:=⟨⟩
theorem hd.tw2134215046882385847:True:=⟨⟩
theorem hd.tw14896477498954680388:True:=⟨⟩
theorem hd.tw758273949599710562:True:=⟨⟩
theorem hd.tw14137390275340422267:True:=⟨⟩
theorem hd.tw18245042118932799458:True:=⟨⟩
theorem hd.tw1712922718373300912:True:=⟨⟩
theorem hd.tw6469175993241445255:True:=⟨⟩
theorem hd.tw10919297434634762262:True:=⟨⟩
theorem hd.tw11389486352061984695:True:=⟨⟩
theorem hd.tw18322514126500204803:True:=⟨⟩
theorem hd.tw6308581086252854402:True:=⟨⟩
theorem hd.tw4870687313549177768:True:=⟨⟩
theorem hd.tw7317836474542784337:True:=⟨⟩
theorem hd.tw17975533764899295144:True:=⟨⟩
theorem hd.tw4111692666942324129:True:=⟨⟩
theorem hd.tw1005483496087919985:True:=⟨⟩
theorem hd.tw16868993833207775613:True:=⟨⟩
theorem hd.tw9741134391959003819:True:=⟨⟩
theorem hd.tw9330943631129107780:True:=⟨⟩
theorem hd.tw1011335219593555734:True:=⟨⟩
theorem hd.tw5292301768408028288:True:=⟨⟩
theorem hd.tw9184186324627900627:True:=⟨⟩
theorem hd.tw13363553139645760527:True:=⟨⟩
theorem hd.tw6759412095888398321:True:=⟨⟩
theorem hd.tw1600037746751723098:True:=⟨⟩
theorem hd.tw2867327485932766208:True:=⟨⟩
theorem hd.tw17950676927832955104:True:=⟨⟩
theorem hd.tw16858285156579221889:True:=⟨⟩
theorem hd.tw10030107230732127627:True:=⟨⟩
theorem hd.tw14029546391885035639:True:=⟨⟩
theorem hd.tw11319892378374348655:True:=⟨⟩
theorem hd.tw13330244855972007585:True:=⟨⟩
theorem hd.tw5130813555471234732:True:=⟨⟩
theorem hd.tw12611767792052310623:True:=⟨⟩
theorem hd.tw5505332120971382143:True:=⟨⟩
theorem hd.tw16684818696116721337:True:=⟨⟩
theorem hd.tw7492773218913965947:True:=⟨⟩
theorem hd.tw8268277133935991078:True:=⟨⟩
theorem hd.tw9398405308114057262:True:=⟨⟩
theorem hd.tw432457690288141553:True:=⟨⟩
theorem hd.tw6965799899956892507:True:=⟨⟩
theorem hd.tw12399718760709695909:True:=⟨⟩
theorem hd.tw9459050058782445324:True:=⟨⟩
theorem hd.tw7512474625130614241:True:=⟨⟩
theorem hd.tw8879563391730754479:True:=⟨⟩
theorem hd.tw8184699220007379433:True:=⟨⟩
theorem hd.tw13409441903868389331:True:=⟨⟩
theorem hd.tw12685813987229840507:True:=⟨⟩
theorem hd.tw9763420282994701918:True:=⟨⟩
theorem hd.tw12590977762386282803:True:=⟨⟩
theorem hd.tw10905682514733158466:True:=⟨⟩
theorem hd.tw13132618709999183898:True:=⟨⟩
theorem hd.tw4363365295628954845:True:=⟨⟩
theorem hd.tw7031273417212677730:True:=⟨⟩
theorem hd.tw8735263284916673568:True:=⟨⟩
theorem hd.tw17843490464661113860:True:=⟨⟩
theorem hd.tw14955159897011116063:True:=⟨⟩
theorem hd.tw15529170255622000948:True:=⟨⟩
theorem hd.tw9702936160620672325:True:=⟨⟩
theorem hd.tw4642405928176397000:True:=⟨⟩
theorem hd.tw15946388913382835224:True:=⟨⟩
theorem hd.tw7754304195085646258:True:=⟨⟩
theorem hd.tw17311223219408574766:True:=⟨⟩
theorem hd.tw10727248033764811480:True:=⟨⟩
theorem hd.tw3350844169311001129:True:=⟨⟩
theorem hd.tw9371418646743202028:True:=⟨⟩
theorem hd.tw14754404106442844205:True:=⟨⟩
theorem hd.tw16844041518873730820:True:=⟨⟩
theorem hd.tw12067141888466383235:True:=⟨⟩
theorem hd.tw9478844844750915290:True:=⟨⟩
theorem hd.tw6095514142297557988:True:=⟨⟩
theorem hd.tw15925925280823731509:True:=⟨⟩
theorem hd.tw16240987189780228909:True:=⟨⟩
theorem hd.tw5786420119611251456:True:=⟨⟩
theorem hd.tw11632984921778587759:True:=⟨⟩
theorem hd.tw4725433745846222901:True:=⟨⟩
theorem hd.tw9093303329989739751:True:=⟨⟩
theorem hd.tw1989634800359022042:True:=⟨⟩
theorem hd.tw2701402951725559080:True:=⟨⟩
theorem hd.tw7062935652884303519:True:=⟨⟩
theorem hd.tw5085467469062529664:True:=⟨⟩
theorem hd.tw7935466954021709139:True:=⟨⟩
theorem hd.tw5898368674579511748:True:=⟨⟩
theorem hd.tw8537826242697300014:True:=⟨⟩
theorem hd.tw464777395874653626:True:=⟨⟩
theorem hd.tw15015030017634654800:True:=⟨⟩
theorem hd.tw1249846841319170215:True:=⟨⟩
theorem hd.tw17678892676462384843:True:=⟨⟩
theorem hd.tw14294344414604881677:True:=⟨⟩
theorem hd.tw17332286549532740043:True:=⟨⟩
theorem hd.tw1798728101399967580:True:=⟨⟩
theorem hd.tw26425463804135960:True:=⟨⟩
theorem hd.tw2466438538863566795:True:=⟨⟩
theorem hd.tw12337632362937886050:True:=⟨⟩
theorem hd.tw6761669909254768831:True:=⟨⟩
theorem hd.tw13277076834127875243:True:=⟨⟩
theorem hd.tw8990313861142287110:True:=⟨⟩
theorem hd.tw7080932558258925280:True:=⟨⟩
theorem hd.tw4478964076566166474:True:=⟨⟩
theorem hd.tw13483081372092288885:True:=⟨⟩
theorem hd.tw12521463284412890351:True:=⟨⟩
theorem hd.tw4015398097383911347:True:=⟨⟩
theorem hd.tw14006173549557618073:True:=⟨⟩
theorem hd.tw17252143746492648416:True:=⟨⟩
theorem hd.tw17312999752573914782:True:=⟨⟩
theorem hd.tw12952509933414984302:True:=⟨⟩
theorem hd.tw4377701919642642989:True:=⟨⟩
theorem hd.tw16634568088961857937:True:=⟨⟩
theorem hd.tw10098268173465320503:True:=⟨⟩
theorem hd.tw5715356086224469760:True:=⟨⟩
theorem hd.tw11364443708160879001:True:=⟨⟩
theorem hd.tw16376525773666504680:True:=⟨⟩
theorem hd.tw17681399029576232318:True:=⟨⟩
theorem hd.tw17577478241444706838:True:=⟨⟩
theorem hd.tw16037735763661986305:True:=⟨⟩
theorem hd.tw960944832710211464:True:=⟨⟩
theorem hd.tw15673258824015622330:True:=⟨⟩
theorem hd.tw7191455744419660376:True:=⟨⟩
theorem hd.tw17047115858639842297:True:=⟨⟩
theorem hd.tw6598312636042714100:True:=⟨⟩
theorem hd.tw13790719812936386609:True:=⟨⟩
theorem hd.tw12659318050587179527:True:=⟨⟩
theorem hd.tw185848376630758926:True:=⟨⟩
theorem hd.tw8934143017859847078:True:=⟨⟩
theorem hd.tw3109861748172591687:True:=⟨⟩
theorem hd.tw11032806212648032379:True:=⟨⟩
theorem hd.tw17628472586750557451:True:=⟨⟩
theorem hd.tw14984183105004643987:True:=⟨⟩
theorem hd.tw13919464512627920130:True:=⟨⟩
theorem hd.tw940617070666608080:True:=⟨⟩
theorem hd.tw243823211424636713:True:=⟨⟩
theorem hd.tw14685462170515437407:True:=⟨⟩
theorem hd.tw11754176132448286083:True:=⟨⟩
theorem hd.tw8351282476255451920:True:=⟨⟩
theorem hd.tw10012880186880212623:True:=⟨⟩
theorem hd.tw18163647496604598072:True:=⟨⟩
theorem hd.tw1299046323782801668:True:=⟨⟩
theorem hd.tw7525542149764818722:True:=⟨⟩
theorem hd.tw3915529967508079626:True:=⟨⟩
theorem hd.tw17673860158736603733:True:=⟨⟩
theorem hd.tw16155205043701107222:True:=⟨⟩
theorem hd.tw16713699803418581334:True:=⟨⟩
theorem hd.tw5138769234217329475:True:=⟨⟩
theorem hd.tw3350930974749635488:True:=⟨⟩
theorem hd.tw9345676750909349944:True:=⟨⟩
theorem hd.tw13372043803930879067:True:=⟨⟩
theorem hd.tw17574625026820762457:True:=⟨⟩
theorem hd.tw12070051907170230399:True:=⟨⟩
theorem hd.tw16091413853298234908:True:=⟨⟩
theorem hd.tw10465514089279642386:True:=⟨⟩
theorem hd.tw6545403380812914513:True:=⟨⟩
theorem hd.tw3443669649825651883:True:=⟨⟩
theorem hd.tw3480954088277226078:True:=⟨⟩
theorem hd.tw8317466277049474617:True:=⟨⟩
theorem hd.tw7366208706002141716:True:=⟨⟩
theorem hd.tw15615420239508185596:True:=⟨⟩
theorem hd.tw10583446816852156582:True:=⟨⟩
theorem hd.tw9748044761591592747:True:=⟨⟩
theorem hd.tw8047900516022102942:True:=⟨⟩
theorem hd.tw2040990291671593033:True:=⟨⟩
theorem hd.tw17330945745186091897:True:=⟨⟩
theorem hd.tw9557236495431379559:True:=⟨⟩
theorem hd.tw368366308016060594:True:=⟨⟩
theorem hd.tw15615537253650120727:True:=⟨⟩
theorem hd.tw6982297934935202809:True:=⟨⟩
theorem hd.tw13365295217650922812:True:=⟨⟩
theorem hd.tw15152743547302097792:True:=⟨⟩
theorem hd.tw10203026625882799534:True:=⟨⟩
theorem hd.tw16853341256802265648:True:=⟨⟩
theorem hd.tw7296583596125217682:True:=⟨⟩
theorem hd.tw3196399650302076718:True:=⟨⟩
theorem hd.tw11034497122203965937:True:=⟨⟩
theorem hd.tw10216474801634566288:True:=⟨⟩
theorem hd.tw6164396464334811476:True:=⟨⟩
theorem hd.tw11465210709893060100:True:=⟨⟩
theorem hd.tw1954109241102656831:True:=⟨⟩
theorem hd.tw8965841893048198262:True:=⟨⟩
theorem hd.tw17986969038992634876:True:=⟨⟩
theorem hd.tw16211521421427940678:True:=⟨⟩
theorem hd.tw18166333605607142505:True:=⟨⟩
theorem hd.tw15595854959937240912:True:=⟨⟩
theorem hd.tw10258999931320997221:True:=⟨⟩
theorem hd.tw9345929723534960622:True:=⟨⟩
theorem hd.tw9960721518486171458:True:=⟨⟩
theorem hd.tw5366084841770067474:True:=⟨⟩
theorem hd.tw8801323125487838256:True:=⟨⟩
theorem hd.tw7292484366425897655:True:=⟨⟩
theorem hd.tw12112201142124510154:True:=⟨⟩
theorem hd.tw3530705653197291679:True:=⟨⟩
theorem hd.tw16828841361933241965:True:=⟨⟩
theorem hd.tw6820862383352777685:True:=⟨⟩
theorem hd.tw13322179722446271537:True:=⟨⟩
theorem hd.tw17258206423299326598:True:=⟨⟩
theorem hd.tw3484992998616243462:True:=⟨⟩
theorem hd.tw10844753989422098599:True:=⟨⟩
theorem hd.tw11210553801493137410:True:=⟨⟩
theorem hd.tw15910714762333108613:True:=⟨⟩
theorem hd.tw701787995468756871:True:=⟨⟩
theorem hd.tw8457440626546761165:True:=⟨⟩
theorem hd.tw4523669819894539328:True:=⟨⟩
theorem hd.tw922143313871775805:True:=⟨⟩
theorem hd.tw7382370116671421104:True:=⟨⟩
theorem hd.tw5657824000916062451:True:=⟨⟩
theorem hd.tw189712035060473897:True:=⟨⟩
theorem hd.tw6184208073178115725:True:=⟨⟩
theorem hd.tw10525666975642140466:True:=⟨⟩
theorem hd.tw16009884308244765898:True:=⟨⟩
theorem hd.tw17672654358674132775:True:=⟨⟩
theorem hd.tw14892549342360969540:True:=⟨⟩
theorem hd.tw15852365999677673905:True:=⟨⟩
theorem hd.tw17901334829092211166:True:=⟨⟩
theorem hd.tw4990156530697904881:True:=⟨⟩
theorem hd.tw6140570298594658328:True:=⟨⟩
theorem hd.tw15987713032478767096:True:=⟨⟩
theorem hd.tw7153062008950511462:True:=⟨⟩
theorem hd.tw13642289790063256904:True:=⟨⟩
theorem hd.tw9155422001095189878:True:=⟨⟩
theorem hd.tw10404513684093684653:True:=⟨⟩
theorem hd.tw18343703819029505601:True:=⟨⟩
theorem hd.tw15042006015671813226:True:=⟨⟩
theorem hd.tw17696971302532935780:True:=⟨⟩
theorem hd.tw16412773359747925120:True:=⟨⟩
theorem hd.tw7746578258024575070:True:=⟨⟩
theorem hd.tw17989097746536338734:True:=⟨⟩
theorem hd.tw16064382804478563927:True:=⟨⟩
theorem hd.tw8587404781116728655:True:=⟨⟩
theorem hd.tw732345407407602841:True:=⟨⟩
theorem hd.tw18291419657060728153:True:=⟨⟩
theorem hd.tw6906073325868019850:True:=⟨⟩
theorem hd.tw12901994302517312135:True:=⟨⟩
theorem hd.tw1359830224848277088:True:=⟨⟩
theorem hd.tw16694946328126371552:True:=⟨⟩
theorem hd.tw14859038896228082724:True:=⟨⟩
theorem hd.tw16502264421070913907:True:=⟨⟩
theorem hd.tw9617658007855726926:True:=⟨⟩
theorem hd.tw6555240042291301478:True:=⟨⟩
theorem hd.tw4138081844389336918:True:=⟨⟩
theorem hd.tw16357263729072622229:True:=⟨⟩
theorem hd.tw1781861727890032366:True:=⟨⟩
theorem hd.tw8081886968326746073:True:=⟨⟩
theorem hd.tw4449123307109862055:True:=⟨⟩
theorem hd.tw1413172679324656950:True:=⟨⟩
theorem hd.tw11375277706881905925:True:=⟨⟩
theorem hd.tw6767318904944593275:True:=⟨⟩
theorem hd.tw10847404155465417027:True:=⟨⟩
theorem hd.tw13931416462566266981:True:=⟨⟩
theorem hd.tw10738003575532504788:True:=⟨⟩
theorem hd.tw14439243815434019604:True:=⟨⟩
theorem hd.tw2051048951616859547:True:=⟨⟩
theorem hd.tw10614716105012338702:True:=⟨⟩
theorem hd.tw3953601041324332601:True:=⟨⟩
theorem hd.tw6931407450589930559:True:=⟨⟩
theorem hd.tw14667805832236412624:True:=⟨⟩
theorem hd.tw14060154772996877548:True:=⟨⟩
theorem hd.tw7068711184596962023:True:=⟨⟩
theorem hd.tw8112040973832200146:True:=⟨⟩
theorem hd.tw13770079208771991547:True:=⟨⟩
theorem hd.tw11905163887095721015:True:=⟨⟩
theorem hd.tw14176624398918483544:True:=⟨⟩
theorem hd.tw12394076208661396346:True:=⟨⟩
theorem hd.tw6990203504111849199:True:=⟨⟩
theorem hd.tw16970440968685349367:True:=⟨⟩
theorem hd.tw6819123309680001836:True:=⟨⟩
theorem hd.tw6818987989461384207:True:=⟨⟩
theorem hd.tw17234923516513369237:True:=⟨⟩
theorem hd.tw6882427118574961969:True:=⟨⟩
theorem hd.tw7752767780024739350:True:=⟨⟩
theorem hd.tw1425423193147277237:True:=⟨⟩
theorem hd.tw1699103778626983548:True:=⟨⟩
theorem hd.tw13293453174229064190:True:=⟨⟩
theorem hd.tw9499510787657705874:True:=⟨⟩
theorem hd.tw6407587892757256292:True:=⟨⟩
theorem hd.tw9170477692918782315:True:=⟨⟩
theorem hd.tw212345690472687942:True:=⟨⟩
theorem hd.tw11162318198679636149:True:=⟨⟩
theorem hd.tw8226494294326810461:True:=⟨⟩
theorem hd.tw13609717118414637909:True:=⟨⟩
theorem hd.tw4856431653887292112:True:=⟨⟩
theorem hd.tw10458740792067480800:True:=⟨⟩
theorem hd.tw2930668341846507884:True:=⟨⟩
theorem hd.tw10678649693572172417:True:=⟨⟩
theorem hd.tw11968265576560266318:True:=⟨⟩
theorem hd.tw4971549296188076032:True:=⟨⟩
theorem hd.tw6196171512934965099:True:=⟨⟩
theorem hd.tw6830512106363814048:True:=⟨⟩
theorem hd.tw5978321128707920903:True:=⟨⟩
theorem hd.tw17902569758825723728:True:=⟨⟩
theorem hd.tw4065347644161347641:True:=⟨⟩
theorem hd.tw1760603350576429475:True:=⟨⟩
theorem hd.tw17087091549796120035:True:=⟨⟩
theorem hd.tw12487502673411948298:True:=⟨⟩
theorem hd.tw17001982702790524580:True:=⟨⟩
theorem hd.tw4014540891139286612:True:=⟨⟩
theorem hd.tw14294001040229213422:True:=⟨⟩
theorem hd.tw15043168886218598503:True:=⟨⟩
theorem hd.tw2608437505485318709:True:=⟨⟩
theorem hd.tw15427206886491885616:True:=⟨⟩
theorem hd.tw307737655149646647:True:=⟨⟩
theorem hd.tw13866372431405929976:True:=⟨⟩
theorem hd.tw5635641802508607975:True:=⟨⟩
theorem hd.tw18185175575083235020:True:=⟨⟩
theorem hd.tw13518370688599389936:True:=⟨⟩
theorem hd.tw12631932088317031055:True:=⟨⟩
theorem hd.tw11399449904127653305:True:=⟨⟩
theorem hd.tw4402725079659364252:True:=⟨⟩
theorem hd.tw4159134105002834734:True:=⟨⟩
theorem hd.tw15616948245753086127:True:=⟨⟩
theorem hd.tw8716120427605611371:True:=⟨⟩
theorem hd.tw1241404454085649124:True:=⟨⟩
theorem hd.tw7752569895197466512:True:=⟨⟩
theorem hd.tw15179676742415161110:True:=⟨⟩
theorem hd.tw17325209927041812611:True:=⟨⟩
theorem hd.tw8004679753235328684:True:=⟨⟩
theorem hd.tw16772102934027710169:True:=⟨⟩
theorem hd.tw3182187488490625086:True:=⟨⟩
theorem hd.tw11117797201346649052:True:=⟨⟩
theorem hd.tw2327210489368252092:True:=⟨⟩
theorem hd.tw10507497572311344420:True:=⟨⟩
theorem hd.tw11402939732021071671:True:=⟨⟩
theorem hd.tw16259696140248634718:True:=⟨⟩
theorem hd.tw1666387254794493845:True:=⟨⟩
theorem hd.tw8545014587354053640:True:=⟨⟩
theorem hd.tw2658526732547218105:True:=⟨⟩
theorem hd.tw8428860471423672150:True:=⟨⟩
theorem hd.tw12050417470231563642:True:=⟨⟩
theorem hd.tw5987830557187376847:True:=⟨⟩
theorem hd.tw11917015161858427179:True:=⟨⟩
theorem hd.tw16011055738799735888:True:=⟨⟩
theorem hd.tw2595994805191909183:True:=⟨⟩
theorem hd.tw3922637787740509324:True:=⟨⟩
theorem hd.tw11672842613191775419:True:=⟨⟩
theorem hd.tw18358800413957953924:True:=⟨⟩
theorem hd.tw6060742912462422084:True:=⟨⟩
theorem hd.tw2799067240506288376:True:=⟨⟩
theorem hd.tw16473244170626142550:True:=⟨⟩
theorem hd.tw7082855905992002993:True:=⟨⟩
theorem hd.tw12588582704262371052:True:=⟨⟩
theorem hd.tw2284436838669742495:True:=⟨⟩
theorem hd.tw4819202231147424091:True:=⟨⟩
theorem hd.tw9719896912496429819:True:=⟨⟩
theorem hd.tw12870888531099404533:True:=⟨⟩
theorem hd.tw3229955645248102723:True:=⟨⟩
theorem hd.tw15368132723985388332:True:=⟨⟩
theorem hd.tw13431754692932380062:True:=⟨⟩
theorem hd.tw3789350110615891812:True:=⟨⟩
theorem hd.tw13566260322249332789:True:=⟨⟩
theorem hd.tw6186238094035137676:True:=⟨⟩
theorem hd.tw519851828213033955:True:=⟨⟩
theorem hd.tw1882180444382439491:True:=⟨⟩
theorem hd.tw9228397985900620932:True:=⟨⟩
theorem hd.tw9783614193127449063:True:=⟨⟩
theorem hd.tw13531707123254989501:True:=⟨⟩
theorem hd.tw9427301549700849589:True:=⟨⟩
theorem hd.tw11912922877643110818:True:=⟨⟩
theorem hd.tw11953376511379268794:True:=⟨⟩
theorem hd.tw11054480109507316185:True:=⟨⟩
theorem hd.tw2101469004524951375:True:=⟨⟩
theorem hd.tw9577689765879766989:True:=⟨⟩
theorem hd.tw7541792107247259296:True:=⟨⟩
theorem hd.tw2442259710966052079:True:=⟨⟩
theorem hd.tw5278057926702712004:True:=⟨⟩
theorem hd.tw7289634563603522867:True:=⟨⟩
theorem hd.tw13225837485096350037:True:=⟨⟩
theorem hd.tw13638418597567726942:True:=⟨⟩
theorem hd.tw2329189449893159454:True:=⟨⟩
theorem hd.tw8134915037123179040:True:=⟨⟩
theorem hd.tw257007361410690125:True:=⟨⟩
theorem hd.tw9131607905817354932:True:=⟨⟩
theorem hd.tw1043307727769730188:True:=⟨⟩
theorem hd.tw12239354291974867115:True:=⟨⟩
theorem hd.tw4654797750381630734:True:=⟨⟩
theorem hd.tw8652628183442184457:True:=⟨⟩
theorem hd.tw11151547217846952531:True:=⟨⟩
theorem hd.tw5716766192118558609:True:=⟨⟩
theorem hd.tw15220180469806662145:True:=⟨⟩
theorem hd.tw226724450230711188:True:=⟨⟩
theorem hd.tw13783031573616600631:True:=⟨⟩
theorem hd.tw6438293893037913957:True:=⟨⟩
theorem hd.tw1848646778235469078:True:=⟨⟩
theorem hd.tw1197925565968671727:True:=⟨⟩
theorem hd.tw13321331477185743149:True:=⟨⟩
theorem hd.tw7880807054014371918:True:=⟨⟩
theorem hd.tw9555612238305686254:True:=⟨⟩
theorem hd.tw9271970288684553227:True:=⟨⟩
theorem hd.tw17895171251205151618:True:=⟨⟩
theorem hd.tw5388632664720090651:True:=⟨⟩
theorem hd.tw845060206244984605:True:=⟨⟩
theorem hd.tw3673020696563887462:True:=⟨⟩
theorem hd.tw14553816603554493358:True:=⟨⟩
theorem hd.tw6578402527460240241:True:=⟨⟩
theorem hd.tw12602439190401603521:True:=⟨⟩
theorem hd.tw13289513938125300765:True:=⟨⟩
theorem hd.tw1194904439430580092:True:=⟨⟩
theorem hd.tw4383666589626881386:True:=⟨⟩
theorem hd.tw17491317419825422843:True:=⟨⟩
theorem hd.tw2315301623876862497:True:=⟨⟩
theorem hd.tw8683856772340465682:True:=⟨⟩
theorem hd.tw7534799579077118603:True:=⟨⟩
theorem hd.tw2788664435532181463:True:=⟨⟩
theorem hd.tw128412058910260475:True:=⟨⟩
theorem hd.tw15207398651663016943:True:=⟨⟩
theorem hd.tw18176940659606848779:True:=⟨⟩
theorem hd.tw6804821044290156842:True:=⟨⟩
theorem hd.tw541196102884509978:True:=⟨⟩
theorem hd.tw15992342658441690333:True:=⟨⟩
theorem hd.tw8664936974563722654:True:=⟨⟩
theorem hd.tw4021928978595405253:True:=⟨⟩
theorem hd.tw11778180911958503814:True:=⟨⟩
theorem hd.tw9153386212771759811:True:=⟨⟩
theorem hd.tw12591134339009171964:True:=⟨⟩
theorem hd.tw15683763237869141255:True:=⟨⟩
theorem hd.tw14745743045033390146:True:=⟨⟩
theorem hd.tw4068527845204499245:True:=⟨⟩
theorem hd.tw13280443560766958183:True:=⟨⟩
theorem hd.tw8770205317985620760:True:=⟨⟩
theorem hd.tw2480057099694739299:True:=⟨⟩
theorem hd.tw8516288146210602744:True:=⟨⟩
theorem hd.tw11801993109049149486:True:=⟨⟩
theorem hd.tw7270182246851987180:True:=⟨⟩
theorem hd.tw2304311442786299043:True:=⟨⟩
theorem hd.tw15048261121198461528:True:=⟨⟩
theorem hd.tw7721951785955056133:True:=⟨⟩
theorem hd.tw7914949630228597729:True:=⟨⟩
theorem hd.tw11713075325732132258:True:=⟨⟩
theorem hd.tw12364972598781006883:True:=⟨⟩
theorem hd.tw402640490398009360:True:=⟨⟩
theorem hd.tw13217827037086042188:True:=⟨⟩
theorem hd.tw16920754564084929960:True:=⟨⟩
theorem hd.tw10806950440038215891:True:=⟨⟩
theorem hd.tw10292235466723388172:True:=⟨⟩
theorem hd.tw5054737718236178183:True:=⟨⟩
theorem hd.tw991583007596301734:True:=⟨⟩
theorem hd.tw1506431575118746342:True:=⟨⟩
theorem hd.tw1118553966540926140:True:=⟨⟩
theorem hd.tw14567429538950270057:True:=⟨⟩
theorem hd.tw4292457097857839397:True:=⟨⟩
theorem hd.tw7526368328331116154:True:=⟨⟩
theorem hd.tw5899666649113621702:True:=⟨⟩
theorem hd.tw13217225542625558698:True:=⟨⟩
theorem hd.tw7523672394736509286:True:=⟨⟩
theorem hd.tw162610821266807592:True:=⟨⟩
theorem hd.tw16345102440705955213:True:=⟨⟩
theorem hd.tw5190246844813560578:True:=⟨⟩
theorem hd.tw9673543361469618366:True:=⟨⟩
theorem hd.tw16904818350239718627:True:=⟨⟩
theorem hd.tw16477043939570097188:True:=⟨⟩
theorem hd.tw8458067239894703972:True:=⟨⟩
theorem hd.tw5629675986466331604:True:=⟨⟩
theorem hd.tw15344866539931968096:True:=⟨⟩
theorem hd.tw13122850982685727845:True:=⟨⟩
theorem hd.tw4478177076189095293:True:=⟨⟩
theorem hd.tw14598272352848978880:True:=⟨⟩
theorem hd.tw14906377314874228009:True:=⟨⟩
theorem hd.tw2999033326186475339:True:=⟨⟩
theorem hd.tw9983995961361265002:True:=⟨⟩
theorem hd.tw280609765759037681:True:=⟨⟩
theorem hd.tw7654286748164834634:True:=⟨⟩
theorem hd.tw1033889070964956483:True:=⟨⟩
theorem hd.tw9657781627882305391:True:=⟨⟩
theorem hd.tw12949589719889679912:True:=⟨⟩
theorem hd.tw11709330566771433103:True:=⟨⟩
theorem hd.tw3309697970292668127:True:=⟨⟩
theorem hd.tw4788038989552484473:True:=⟨⟩
theorem hd.tw4086058157674990017:True:=⟨⟩
theorem hd.tw3404104791013757517:True:=⟨⟩
theorem hd.tw9073681462420916055:True:=⟨⟩
theorem hd.tw13092906067662860646:True:=⟨⟩
theorem hd.tw4360684699965382250:True:=⟨⟩
theorem hd.tw3008623586974134963:True:=⟨⟩
theorem hd.tw13466754112058979494:True:=⟨⟩
theorem hd.tw7085514621470718492:True:=⟨⟩
theorem hd.tw3828038474966422129:True:=⟨⟩
theorem hd.tw9430268157657104642:True:=⟨⟩
theorem hd.tw4282304852377368616:True:=⟨⟩
theorem hd.tw6898005170327248138:True:=⟨⟩
theorem hd.tw1331086792558400476:True:=⟨⟩
theorem hd.tw15508949281206285077:True:=⟨⟩
theorem hd.tw16056359734778111409:True:=⟨⟩
theorem hd.tw2195365466389143174:True:=⟨⟩
theorem hd.tw12994019391074448376:True:=⟨⟩
theorem hd.tw11213053971927718326:True:=⟨⟩
theorem hd.tw1129884963351977449:True:=⟨⟩
theorem hd.tw2448417245163862455:True:=⟨⟩
theorem hd.tw15463257786427224491:True:=⟨⟩
theorem hd.tw526207354791536317:True:=⟨⟩
theorem hd.tw17429513623812275283:True:=⟨⟩
theorem hd.tw12647368939536790636:True:=⟨⟩
theorem hd.tw1147470481896660410:True:=⟨⟩
set_option Elab.async true in
theorem hd : PySem.Challenge.rw_nu0076_01.Holds := by
  (w_on; o_law; k_head; (case hw => w_witness2))
  k_fill
  intro w s₀ s₁ mg mb G Y fa o pm cd doc dV kV ho hd hcd hD hmg hg args vals as hpre hlay hrd hwl hlo
  have KX := kIn_of Y
  refine Ground.open G ?_
  intro T B D TE TW
  wrow_args hpre hlay hrd hwl hlo
  rename_i ns _ _ _ _ _ _ _ a vs _ hL _ W _ hI _ _ _
  have i35 : InitFn (Mine.hd.heap_1_39 w.params) 35 := ⟨fdAt (Mine.hd.heap_1_39 w.params) 35, ⟨⟨_, rfl, rfl⟩, rfl, rfl, rfl, by kernel_rfl, rfl, rfl, rfl⟩, fun _ _ _ => by kernel_rfl, rfl, _, _, _, _, _, _, _, _, _, _, rfl, rfl⟩
  have GK : Gnd (Mine.hd.heap_1_39 w.params) := by
    refine ⟨⟨?_, ?_, ?_, ?_, ?_, ?con, ⟨⟨⟨_, _, _, _, 38, _, _, _, _, _, _, _, _, _, _⟩, rfl⟩, ⟨35, ?_, ?_, i35⟩, ?_, ?_, ?_, fun _ _ => ?_⟩, ⟨⟨⟨_, _, _, _, 38, _, _, _, _, _, _, _, _, _, _⟩, rfl⟩, ⟨35, ?_, ?_, i35⟩, ?_, ?_, ?_, fun _ _ => ?_⟩⟩, ?_, ?_, ?_, ?_, ?b0, ?b1, ?b2, ?b3, ?_, ?_, ?_, ?_,
      ⟨?_, fun _ _ _ => ?_, fun _ _ _ _ => ?_⟩, ⟨?_, fun _ _ _ => ?_, fun _ _ _ _ => ?_⟩, ⟨?_, fun _ _ _ => ?_, fun _ _ _ _ => ?_⟩, ?_, ?_⟩
    case con => repeat (first | exact trivial | refine ⟨trivial, ?_⟩ | refine ⟨⟨_, rfl, fun h X => ⟨_, by decide +kernel⟩⟩, ?_⟩ | refine ⟨⟨_, rfl, fun h X => ⟨_⟩⟩, ?_⟩ | refine ⟨⟨_, rfl, fun h X => ⟨_, _, ⟨_, X _ _ rfl⟩, _, _, ⟨_, by decide +kernel⟩, _, _, ⟨_, by decide +kernel⟩, rfl⟩⟩, ?_⟩)
    case b0 => repeat (first | exact trivial | (refine ⟨?_, ?_⟩; (repeat (refine fun _ => ?_)); kernel_rfl))
    case b1 => repeat (first | exact trivial | (refine ⟨?_, ?_⟩; (repeat (refine fun _ => ?_)); kernel_rfl))
    case b2 => repeat (first | exact trivial | (refine ⟨?_, ?_⟩; (repeat (refine fun _ => ?_)); kernel_rfl))
    case b3 => repeat (first | exact trivial | (refine ⟨?_, ?_⟩; (repeat (refine fun _ => ?_)); kernel_rfl))
    all_goals kernel_rfl
  have hs : ∃ o, s₁.heap.get? sysModules = some o := by
    obtain ⟨ms, ⟨o, _, _, e, _⟩, _⟩ := (T.seer (by kernel_rfl)).mods
    exact ⟨o, e⟩
  have hfa : fa = 644 := by
    have h1 := mg_of KX T.g (show nsIn (Mine.hd.heap_1_39 w.params) mainGlobals "law" = some (some (.ref 644)) from by kernel_rfl)
    have h2 : mg "law" = some (.ref fa) := hmg
    rw [h2] at h1
    cases h1; rfl
  subst hfa
  have hP : s₁.heap.PlainList a vs.toArray := by
    obtain ⟨o', e1, e2, n', e3⟩ := hL
    cases W with
    | list ha wa =>
      rw [ha] at e1; cases e1
      obtain ⟨e4, e5⟩ := Data.seq.inj e3
      exact ⟨_, by rw [← e4]; exact ha⟩
  have run := law_run (w := w) GK KX T.g T.b T.nolimit T.builtins hs hP hI (plain_law ns (by omega) fun _ => rfl)
  rw [Pg] at run
  refine wpAny_mono run (fun v s' z => ?_) fun _ _ z => z.elim
  obtain ⟨rfl, hk, hio⟩ := z
  have hos : s'.os = s₁.os := congrArg Prod.fst hio
  have hgn : s'.gens = s₁.gens := congrArg Prod.snd hio
  exact ⟨.inl ⟨_, .bool true, [], rfl, fun _ => rfl, .bool true, by kernel_rfl, fun _ => ⟨List.nodup_nil, fun _ h => nomatch h⟩⟩, .of_keep hk, hos, .of_eq (hgn.trans hg)⟩
end Mine
theorem PySem.Challenge.cw_nu0076_01_holds : PySem.Challenge.rw_nu0076_01.Holds :=
  Mine.hd
