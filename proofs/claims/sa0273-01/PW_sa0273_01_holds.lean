import PyProof.Rows.All
import KE.KItem
import KE.KSliceW
import KE.KPairComp
import KE.KTupTruth
import Open.Tops
import Wide.Txt2
import PySem.Challenge.RW_sa0273_01
set_option Elab.async false
set_option maxRecDepth 100000
set_option maxHeartbeats 0
set_option linter.all false
namespace Mine
theorem nT {a b c : Nat} (h : a <= b) (k : b <= c) : a <= c := Nat.le_trans h k
theorem nR (a : Nat) : a <= a := Nat.le_refl a
theorem nA (a b : Nat) : a <= a + b := Nat.le_add_right a b
theorem nO {g : Prop} (e : False) : g := e.elim
noncomputable def zzA := @List.getElem?_eq_some_iff
noncomputable def zzB := @List.length_append
noncomputable def zzC := @Option.some.inj
noncomputable def zzD := @Nat.add_le_add_left
noncomputable def zzE := @Nat.le_add_left
noncomputable def zzF := @Nat.lt_of_lt_of_le
noncomputable def zzG := @Nat.lt_of_le_of_lt
noncomputable def zzH := @List.getElem?_append_left
noncomputable def zzI := @Nat.ble_eq_true_of_le
noncomputable def zzJ := @List.mem_singleton
noncomputable def zzK := @Nat.le_of_succ_le_succ
noncomputable def zzL := @List.mem_of_getElem?
noncomputable def zzM := @List.mem_iff_getElem?
noncomputable def zzN := @Nat.zero_le
noncomputable def zzO := @List.getElem?_concat_length
noncomputable def zzP := @List.mem_append
noncomputable def zzQ := @List.lookup_cons
noncomputable def zzR := @List.prefix_rfl
noncomputable def zzS := @Nat.add_le_add_right
noncomputable def zzT := @List.getElem?_eq_getElem
noncomputable def zzU := @Nat.le_of_ble_eq_true
noncomputable def zzV := @List.size_toArray
noncomputable def zzW := @Nat.max_le
noncomputable def zzX := @Nat.eq_of_beq_eq_true
noncomputable def zzY := @Nat.le_of_add_le_add_right
noncomputable def zzZ := @List.length_map
noncomputable def zza := @List.getElem?_map
noncomputable def zzb := @Nat.lt_succ_self
noncomputable def zzc := @Nat.le_of_succ_le
noncomputable def zzd := @Nat.succ_le_succ
noncomputable def zze := @List.getElem?_set_self
section
open PySem PySem.W PyProof.Rows PyProof.V
noncomputable abbrev V (s : String) : Str := Str.ofString s
inductive PV where
 | none
 | bool (b : Bool)
 | int (i : Int)
 | str (s : Str)
 | tup (l : List PV)
 | fin (c : Str) (xs : List Str) (l : List PV)
inductive MV where
 | p (v : PV)
 | obj (i : Nat)
 | inst (i : Nat) (c : Str)
 | glob (s : Str)
 | blt (s : String)
 | rng (n : Nat)
 | frz (l : List PV)
 | any
inductive MO where
 | pl (l : List PV)
 | list (l : List MV)
 | dict (l : List (PV × MV))
 | attrs (l : List (Str × MV))
noncomputable abbrev Mem := List MO
noncomputable abbrev Loc := List (Str × MV)
noncomputable abbrev Kt (α : Type) := α -> Mem -> Nat -> Prop
noncomputable abbrev PT (α : Type) := Kt α -> Mem -> Nat -> Prop
noncomputable abbrev Orc := Str -> Str -> List MV -> PT MV
inductive Flw where
 | next | brk | cont
 | ret (v : MV)
noncomputable abbrev i_ (i : Int) : MV := .p (.int i)
noncomputable abbrev n_ : MV := .p .none
noncomputable abbrev b_ (b : Bool) : MV := .p (.bool b)
structure FnI where
 params : List Str
 body : List Stmt
 scope : Scope
structure PI where
 glob : Str -> Option MV
 fn : Str -> Str -> Option FnI
 cls : Str -> Option Bool
 sd : Str -> Option (List (PV × MV))
 attr : Str -> Str -> Bool
inductive Callee where
 | fn (c f : Str) (pre : List MV)
 | cls (c : Str)
 | blt (s : String)
 | lappend (i : Nat)
 | lextend (i : Nat)
 | lpop (i : Nat)
 | dget (i : Nat)
 | sget (s : Str)
noncomputable def som {α : Type} (o : Option α) (k : α -> Prop) : Prop := match o with | some a => k a | none => False
noncomputable def chk (b : Bool) (k : Prop) : Prop := match b with | true => k | false => False
noncomputable def br (b : Bool) (X Y : Prop) : Prop := match b with | true => X | false => Y
noncomputable def onP (v : MV) (k : PV -> Prop) : Prop := match v with | .p x => k x | _ => False
noncomputable def onI (v : PV) (k : Int -> Prop) : Prop := match v with | .int x => k x | _ => False
noncomputable def onT (v : PV) (k : List PV -> Prop) : Prop := match v with | .tup x => k x | _ => False
noncomputable def onO (v : MV) (k : Nat -> Prop) : Prop := match v with | .obj x => k x | _ => False
noncomputable def onN (i : Int) (k : Nat -> Prop) : Prop := match i with | .ofNat n => chk (Nat.blt n 1000000) (k n) | _ => False
noncomputable def atP (o : Option MO) (k : List PV -> Prop) : Prop := match o with | some (.pl l) => k l | _ => False
noncomputable def atD (o : Option MO) (k : List (PV × MV) -> Prop) : Prop := match o with | some (.dict l) => k l | _ => False
noncomputable def atA (o : Option MO) (k : List (Str × MV) -> Prop) : Prop := match o with | some (.attrs l) => k l | _ => False
noncomputable def bigN : Nat := 2000000
noncomputable def allP : List MV -> Option (List PV)
 | [] => some []
 | .p v :: r => match allP r with | some l => some (v :: l) | none => none
 | _ :: _ => none
noncomputable def tupV (vs : List MV) : PT MV := fun K m c => som (allP vs) fun l => chk (Nat.ble l.length 1000) (K (.p (.tup l)) m c)
noncomputable def lst (vs : List MV) : MO := match allP vs with | some l => .pl l | none => .list vs
noncomputable def newList (vs : List MV) : PT MV := fun K m c => K (.obj m.length) (m ++ [lst vs]) (c + vs.length)
noncomputable def evC : Const -> PT MV
 | .none, K, m, c => K n_ m c
 | .bool b, K, m, c => K (b_ b) m c
 | .int i, K, m, c => K (i_ i) m c
 | .str s, K, m, c => K (.p (.str s)) m c
 | _, _, _, _ => False
noncomputable def dM1 (P : PI) (loc : Loc) (x : Str) : NameKind -> Option MV
 | .globalImplicit => P.glob x
 | .local => loc.lookup x
 | .cell => loc.lookup x
 | .free => loc.lookup x
 | _ => none
noncomputable def evN (P : PI) (sc : Scope) (x : Str) (loc : Loc) : PT MV := fun K m c => chk (!(x == Str.ofString "__debug__" || x == Str.ofString "__classdict__")) (som (sc.names.lookup x) fun k => som (dM1 P loc x k) fun v => K v m c)
noncomputable def bA3 (a b : Int) : Bool := decide (a.natAbs < 2 ^ 31) && decide (b.natAbs < 2 ^ 31)
noncomputable def add (a b : MV) : PT MV := fun K m c => match a with
 | .p x => onI x fun x => onP b fun y => onI y fun y => K (i_ (x + y)) m c
 | .obj i => onO b fun j => atP m[i]? fun x => atP m[j]? fun y => K (.obj m.length) (m ++ [.pl (x ++ y)]) (c + x.length)
 | _ => False
noncomputable def mul (a b : MV) : PT MV := fun K m c => onP a fun a => onP b fun b => onI b fun j => match a with
 | .int i => chk (bA3 i j) (K (i_ (i * j)) m c)
 | .tup [_] => chk (decide (j = 0)) (K (.p (.tup [])) m c)
 | _ => False
noncomputable def int2 (a b : MV) (k : Int -> Int -> Prop) : Prop := onP a fun a => onP b fun b => onI a fun i => onI b fun j => k i j
noncomputable def aF0 (op : Operator) (a b : MV) : PT MV := fun K m c => match op with
 | .Add => add a b K m c
 | .Sub => int2 a b fun i j => K (i_ (i - j)) m c
 | .Mult => mul a b K m c
 | .Mod => int2 a b fun i j => chk (decide (0 < j)) (K (i_ (i.fmod j)) m c)
 | .FloorDiv => int2 a b fun i j => chk (decide (j = 3)) (K (i_ (i.fdiv j)) m c)
 | _ => False
noncomputable def iop (op : Operator) (a b : MV) : PT MV := fun K m c => match op with
 | .Add => int2 a b fun i j => K (i_ (i + j)) m c
 | .Sub => int2 a b fun i j => K (i_ (i - j)) m c
 | _ => False
noncomputable def unop (op : UnaryOp) (v : MV) : PT MV := fun K m c => match op with
 | .USub => onP v fun v => onI v fun i => K (i_ (-i)) m c
 | _ => False
noncomputable def truK (v : MV) : PT Bool := fun K m c => match v with
 | .p .none => K false m c
 | .p (.bool b) => K b m c
 | .p (.int i) => K (!decide (i = 0)) m c
 | .p (.tup l) => K (!l.isEmpty) m c
 | .obj i => atP m[i]? fun l => K (!l.isEmpty) m c
 | _ => False
mutual
noncomputable def peq : PV -> PV -> Bool
 | .none, .none => true
 | .bool a, .bool b => a == b
 | .int a, .int b => decide (a = b)
 | .str a, .str b => decide (a = b)
 | .tup l, .tup r => peqs l r
 | _, _ => false
noncomputable def peqs : List PV -> List PV -> Bool
 | [], [] => true
 | x :: l, y :: r => peq x y && peqs l r
 | _, _ => false
end
mutual
noncomputable def okE : Nat -> PV -> Bool
 | _, .str s => PyData.strOk s
 | 0, .tup _ => false
 | n + 1, .tup l => okEs n l
 | _, .bool _ => false
 | _, .fin .. => false
 | _, _ => true
noncomputable def okEs : Nat -> List PV -> Bool
 | _, [] => true
 | n, x :: l => okE n x && okEs n l
end
noncomputable def okQ (a b : PV) : Bool := match a, b with
 | .int _, .int _ => true
 | .bool _, .bool _ => true
 | _, _ => okE 8 a && okE 8 b
noncomputable def isNone : MV -> Bool
 | .p .none => true
 | _ => false
mutual
noncomputable def okK : Nat -> PV -> Bool
 | _, .int _ => true
 | _, .str s => PyData.strOk s
 | 0, .tup _ => false
 | n + 1, .tup l => okKs n l
 | _, _ => false
noncomputable def okKs : Nat -> List PV -> Bool
 | _, [] => true
 | n, x :: l => okK n x && okKs n l
end
noncomputable def kindOf : PV -> Nat
 | .int _ => 0
 | .str _ => 1
 | .tup _ => 2
 | _ => 3
noncomputable def cO6 (n : Nat) (k : PV) : Bool := Nat.beq (kindOf k) n && okK 4 k
noncomputable def allK (n : Nat) : List (PV × MV) -> Bool
 | [] => true
 | e :: r => cO6 n e.1 && allK n r
noncomputable def aA8 (k : PV) (es : List (PV × MV)) : Bool := okK 4 k && allK (kindOf k) es
noncomputable def aA9 (k : PV) : List (PV × MV) -> Option MV
 | [] => none
 | e :: r => match peq e.1 k with | true => some e.2 | false => aA9 k r
noncomputable def dput (k : PV) (v : MV) : List (PV × MV) -> List (PV × MV)
 | [] => [(k, v)]
 | e :: r => match peq e.1 k with | true => (e.1, v) :: r | false => e :: dput k v r
noncomputable def aR3 (a : Int) : List PV -> Option Bool
 | [] => some false
 | .int b :: r => match aR3 a r with | some t => some (decide (b = a) || t) | none => none
 | _ => none
noncomputable def cmpE (a b : MV) : PT MV := fun K m c => match a with
 | .p x => onP b fun y => chk (okQ x y) (K (b_ (peq x y)) m c)
 | .obj i => onO b fun j => atP m[i]? fun x => atP m[j]? fun y => chk (okEs 8 x && okEs 8 y) (K (b_ (peqs x y)) m c)
 | _ => False
noncomputable def cD4 (P : PI) (m : Mem) (a b : MV) (k : Bool -> Prop) : Prop := onP a fun a => match b with
 | .p l => onI a fun i => onT l fun l => som (aR3 i l) k
 | .obj i => atD m[i]? fun es => chk (aA8 a es) (k (aA9 a es).isSome)
 | .glob s => som (P.sd s) fun es => chk (aA8 a es) (k (aA9 a es).isSome)
 | _ => False
noncomputable def aG1 (P : PI) (op : CmpOp) (a b : MV) : PT MV := fun K m c => match op with
 | .Eq => cmpE a b K m c
 | .NotEq => onP a fun x => onP b fun y => chk (okQ x y) (K (b_ (!peq x y)) m c)
 | .Lt => int2 a b fun i j => K (b_ (decide (i < j))) m c
 | .LtE => int2 a b fun i j => K (b_ (decide (i <= j))) m c
 | .Gt => int2 a b fun i j => K (b_ (decide (j < i))) m c
 | .GtE => int2 a b fun i j => K (b_ (decide (j <= i))) m c
 | .Is => chk (isNone b) (K (b_ (isNone a)) m c)
 | .IsNot => chk (isNone b) (K (b_ (!isNone a)) m c)
 | .In => cD4 P m a b fun t => K (b_ t) m c
 | .NotIn => cD4 P m a b fun t => K (b_ (!t)) m c
noncomputable def getI (a k : MV) : PT MV := fun K m c => onP k fun k => match a with
 | .p t => onT t fun l => onI k fun j => onN j fun n => som l[n]? fun x => K (.p x) m c
 | .obj i => match m[i]? with
  | some (.pl l) => onI k fun j => onN j fun n => som l[n]? fun x => K (.p x) m c
  | some (.list l) => onI k fun j => onN j fun n => som l[n]? fun x => K x m c
  | some (.dict es) => som (aA9 k es) fun x => chk (aA8 k es) (K x m c)
  | _ => False
 | _ => False
noncomputable def setI (a k v : MV) : PT Unit := fun K m c => onO a fun i => onP k fun k => match m[i]? with
 | some (.pl l) => onP v fun x => onI k fun j => onN j fun n => chk (Nat.blt n l.length) (K () (m.set i (.pl (l.set n x))) c)
 | some (.dict es) => chk (aA8 k es) (K () (m.set i (.dict (dput k v es))) (c + 1))
 | _ => False
noncomputable def onLo (v : MV) (k : Nat -> Prop) : Prop := onP v fun v => match v with
 | .none => k 0
 | v => onI v fun i => onN i k
noncomputable def dA3 (a lo hi : MV) : PT MV := fun K m c => onLo lo fun x => onP hi fun y => onI y fun y => onN y fun y => chk (Nat.ble x y) (match a with
  | .frz l => K (.obj m.length) (m ++ [.pl ((l.drop x).take (y - x))]) (c + (y - x))
  | .obj i => atP m[i]? fun l => K (.obj m.length) (m ++ [.pl ((l.drop x).take (y - x))]) (c + (y - x))
  | _ => False)
noncomputable def aput (x : Str) (v : MV) : List (Str × MV) -> List (Str × MV)
 | [] => [(x, v)]
 | e :: r => match x == e.1 with | true => (e.1, v) :: r | false => e :: aput x v r
noncomputable def bZ0 (x : Str) : List Str -> List PV -> Option PV
 | y :: ys, v :: vs => match x == y with | true => some v | false => bZ0 x ys vs
 | _, _ => none
noncomputable def getA (P : PI) (a : MV) (x : Str) : PT MV := fun K m c => match a with
 | .inst i cl => chk (P.attr cl x) (atA m[i]? fun l => som (l.lookup x) fun v => K v m c)
 | .p (.fin cl xs l) => chk (P.attr cl x) (som (bZ0 x xs l) fun v => K (.p v) m c)
 | _ => False
noncomputable def setA (P : PI) (a : MV) (x : Str) (v : MV) : PT Unit := fun K m c => match a with
 | .inst i cl => chk (P.attr cl x) (atA m[i]? fun l => chk (Nat.blt l.length 500) (K () (m.set i (.attrs (aput x v l))) c))
 | _ => False
noncomputable def getM (P : PI) (a : MV) (x : Str) : PT Callee := fun K m c => match a with
 | .inst i cl => atA m[i]? fun l => chk ((l.lookup x).isNone && (P.fn cl x).isSome) (K (.fn cl x [a]) m c)
 | .obj i => match m[i]? with
  | some (.pl _) => match x == V "append" with
   | true => K (.lappend i) m c
   | false => match x == V "extend" with
    | true => K (.lextend i) m c
    | false => chk (x == V "pop") (K (.lpop i) m c)
  | some (.list _) => chk (x == V "append") (K (.lappend i) m c)
  | some (.dict _) => chk (x == V "get") (K (.dget i) m c)
  | _ => False
 | .glob s => chk (x == V "get" && (P.sd s).isSome) (K (.sget s) m c)
 | _ => False
noncomputable def getC (P : PI) (a : MV) : PT Callee := fun K m c => match a with
 | .glob s => match P.cls s with
  | some _ => K (.cls s) m c
  | none => som (P.fn (V "") s) fun _ => K (.fn (V "") s []) m c
 | .blt s => K (.blt s) m c
 | _ => False
noncomputable def aP (v : MV) : PT MV := fun K m c => match v with
 | .p (.tup l) => K (i_ l.length) m c
 | .obj i => match m[i]? with
  | some (.pl l) => K (i_ l.length) m c
  | some (.list l) => K (i_ l.length) m c
  | _ => False
 | _ => False
noncomputable def tupB (v : MV) : PT MV := fun K m c => match v with
 | .p x => onT x fun _ => K (.p x) m c
 | v => onO v fun i => atP m[i]? fun l => K (.p (.tup l)) m c
noncomputable def aX8 (s : String) (v : MV) : PT MV := fun K m c => match s with
 | "len" => aP v K m c
 | "range" => onP v fun v => onI v fun i => onN i fun n => K (.rng n) m c
 | "tuple" => tupB v K m c
 | "list" => onP v fun v => onT v fun l => K (.obj m.length) (m ++ [.pl l]) (c + l.length)
 | _ => False
noncomputable def one (vs : List MV) (k : MV -> Prop) : Prop := match vs with | [v] => k v | _ => False
noncomputable def okO (n : Nat) : MV -> Bool
 | .obj i => Nat.blt i n
 | .inst i _ => Nat.blt i n
 | _ => true
noncomputable def okOs (n : Nat) : List MV -> Bool
 | [] => true
 | v :: r => okO n v && okOs n r
noncomputable def okC (n : Nat) : MO -> Bool
 | .pl _ => true
 | .list l => okOs n l
 | .dict l => okOs n (l.map (·.2))
 | .attrs l => okOs n (l.map (·.2))
noncomputable def okCs (n : Nat) : Nat -> Mem -> Bool
 | 0, _ => true
 | _, [] => true
 | k + 1, o :: r => okC n o && okCs n k r
noncomputable def bB4 (n : Nat) (m : Mem) : Bool := okCs n n m
noncomputable def bJ9 (n : Nat) (v : MV) : PT MV := fun K m c => match Nat.beq m.length n with
 | true => K v m c
 | false => match bB4 n m with
  | false => K v m c
  | true => match okO n v with
   | true => K v (m.take n) c
   | false => onO v fun j => atP m[j]? fun l => K (.obj n) (m.take n ++ [.pl l]) c
noncomputable def allA : List (Str × MV) -> Option (List PV)
 | [] => some []
 | (_, .p v) :: r => match allA r with | some l => some (v :: l) | none => none
 | _ :: _ => none
noncomputable def bE1 (n : Nat) (cl : Str) : PT MV := fun K m c => chk (Nat.beq m.length (n + 1)) (chk (bB4 n m) (atA m[n]? fun l => som (allA l) fun r => K (.p (.fin cl (l.map (·.1)) r)) (m.take n) c))
noncomputable def appP (i : Nat) (l : List PV) (v : MV) : PT MV := fun K m c => match v with
 | .p x => K n_ (m.set i (.pl (l ++ [x]))) (c + 1)
 | v => K n_ (m.set i (.list (l.map .p ++ [v]))) (c + 1)
noncomputable def runC (P : PI) (fz : Str -> Bool) (cl : Orc) (f : Callee) (vs : List MV) : PT MV := fun K m c => match f with
 | .fn x f pre => cl x f (pre ++ vs) K m c
 | .cls x => match P.cls x with
  | some true => cl x (V "__init__") (.inst m.length x :: vs) (fun r m' c' => chk (isNone r) (match fz x with
    | true => bE1 m.length x K m' c'
    | false => K (.inst m.length x) m' c')) (m ++ [.attrs []]) c
  | some false => match vs with
   | [] => K (.inst m.length x) (m ++ [.attrs []]) c
   | _ => False
  | none => False
 | .blt s => one vs fun v => aX8 s v K m c
 | .lappend i => one vs fun v => match m[i]? with
  | some (.pl l) => appP i l v K m c
  | some (.list l) => K n_ (m.set i (.list (l ++ [v]))) (c + 1)
  | _ => False
 | .lextend i => one vs fun v => onP v fun v => onT v fun t => atP m[i]? fun l => K n_ (m.set i (.pl (l ++ t))) (c + t.length)
 | .lpop i => match vs with
  | [] => atP m[i]? fun l => som l.getLast? fun x => K (.p x) (m.set i (.pl l.dropLast)) c
  | _ => False
 | .dget i => atD m[i]? fun es => dgetK es vs K m c
 | .sget s => som (P.sd s) fun es => dgetK es vs K m c
where
 dgetK (es : List (PV × MV)) (vs : List MV) : PT MV := fun K m c => match vs with
  | [k] => onP k fun k => chk (aA8 k es) (K ((aA9 k es).getD n_) m c)
  | [k, d] => onP k fun k => chk (aA8 k es) (K ((aA9 k es).getD d) m c)
  | _ => False
noncomputable def setL (x : Str) (v : MV) : Loc -> Loc
 | [] => [(x, v)]
 | e :: r => match x == e.1 with | true => (e.1, v) :: r | false => e :: setL x v r
noncomputable def turn (K : Kt (Flw × Loc)) (go : Loc -> Mem -> Nat -> Prop) : Kt (Flw × Loc) := fun x m c => match x.1 with
 | .next => go x.2 m c
 | .cont => go x.2 m c
 | .brk => K (.next, x.2) m c
 | .ret u => K (.ret u, x.2) m c
noncomputable def forL (f : MV -> Loc -> PT (Flw × Loc)) (K : Kt (Flw × Loc)) : List MV -> Loc -> Mem -> Nat -> Prop
 | [], loc, m, c => K (.next, loc) m c
 | v :: r, loc, m, c => f v loc (turn K (forL f K r)) m c
noncomputable def forO (f : MV -> Loc -> PT (Flw × Loc)) (i : Nat) (K : Kt (Flw × Loc)) : Nat -> Nat -> Loc -> Mem -> Nat -> Prop
 | 0, _, _, _, _ => False
 | n + 1, k, loc, m, c => atP m[i]? fun l => match l[k]? with
   | none => K (.next, loc) m c
   | some v => f (.p v) loc (turn K (forO f i K n (k + 1))) m c
noncomputable def forV (f : MV -> Loc -> PT (Flw × Loc)) (v : MV) (loc : Loc) : PT (Flw × Loc) := fun K m c => match v with
 | .p t => onT t fun l => forL f K (l.map .p) loc m c
 | .rng n => forL f K ((List.range n).map fun (i : Nat) => i_ i) loc m c
 | .obj i => ∃ n, forO f i K n 0 loc m c
 | _ => False
noncomputable def aL9 (t : Loc -> PT Bool) (b : Loc -> PT (Flw × Loc)) (K : Kt (Flw × Loc)) : Nat -> Loc -> Mem -> Nat -> Prop
 | 0, _, _, _ => False
 | n + 1, loc, m, c => t loc (fun go m c => match go with
  | true => b loc (turn K (aL9 t b K n)) m c
  | false => K (.next, loc) m c) m c
noncomputable def setN (sc : Scope) (x : Str) (v : MV) (loc : Loc) (k : Loc -> Prop) : Prop := match sc.names.lookup x with
 | some .local => k (setL x v loc)
 | _ => False
noncomputable def aW0 (sc : Scope) : List Expr -> List PV -> Loc -> (Loc -> Prop) -> Prop
 | [], [], loc, k => k loc
 | .Name x _ :: ts, v :: vs, loc, k => setN sc x (.p v) loc fun loc' => aW0 sc ts vs loc' k
 | _, _, _, _ => False
noncomputable def bD5 (scope sc : Scope) : Scope :=
 {scope with names := scope.names.map fun (n, k) => if (k == .free && sc.kind == .function && sc.names.lookup n == some .cell) then (n, .cell) else (n, k) }
noncomputable def cL1 (scope sc : Scope) (x : Str) (loc : Loc) : Bool := scope.kind == .function && scope.names.lookup x == some .local && scope.names.all fun (n, k) => match k with
 | .local => scope.names.lookup n == some .local
 | .free => (loc.lookup n).isSome && (sc.names.lookup n == some .cell || sc.names.lookup n == some .free) && scope.names.lookup n == some .free
 | .cell => false
 | _ => true
noncomputable def aZ9 (f : MV -> Loc -> PT (MV × Loc)) (i : Nat) (K : Mem -> Nat -> Prop) : List PV -> Loc -> Mem -> Nat -> Prop
 | [], _, m, c => K m c
 | v :: r, loc, m, c => f (.p v) loc (fun y m c => onP y.1 fun x => atP m[i]? fun l => aZ9 f i K r y.2 (m.set i (.pl (l ++ [x]))) (c + 1)) m c
noncomputable def bP4 : Expr -> Bool
 | .Call (.Name x _) _ _ _ => !(x == Str.ofString "super")
 | _ => true
noncomputable def aK8 (e : Expr) : Bool := Nat.beq e.ctorIdx 26
noncomputable def bG6 (n i : Nat) (us : List (PV × MV)) : PT MV := fun K m c => chk (allK n us && !us.isEmpty) (atD m[i]? fun es => match es with
 | [] => K (.obj i) (m.set i (.dict (us.foldl (fun d e => dput e.1 e.2 d) []))) (c + us.length)
 | _ => False)
noncomputable def aS6 (e : Expr) : Bool := !Nat.beq e.ctorIdx 22
noncomputable def dZ9 : List CmpOp -> List Expr -> Bool
 | [op], [r] => !behindInMarks op r
 | _, _ => false
noncomputable def bE6 : List (Option Expr) -> List Expr -> Bool
 | [], [] => true
 | k :: ks, _ :: vs => k.isSome && bE6 ks vs
 | _, _ => false
noncomputable def keyN : List (Option Expr) -> Nat
 | some (.Constant (.str _) _ _) :: _ => 1
 | _ => 0
noncomputable def genX : List Comprehension -> Str
 | [⟨.Name x _, _, _, _⟩] => x
 | _ => V ""
noncomputable def aX5 (e : Expr) : Bool := Nat.beq e.ctorIdx 25
noncomputable def cT2 (e : Expr) : Bool := Nat.beq e.ctorIdx 23 || (Nat.beq e.ctorIdx 20 || (Nat.beq e.ctorIdx 21 || aX5 e))
noncomputable def bS (e : Expr) : Bool := Nat.beq e.ctorIdx 8 || (Nat.beq e.ctorIdx 9 || Nat.beq e.ctorIdx 10)
mutual
noncomputable def evE (P : PI) (fz : Str -> Bool) (cl : Orc) : Expr -> Scope -> Loc -> PT MV
 | .Constant c _ _, _, _, K, m, c' => evC c K m c'
 | .Name x _, sc, loc, K, m, c => evN P sc x loc K m c
 | .BinOp l op r _, sc, loc, K, m, c => evE P fz cl l sc loc (fun a => evE P fz cl r sc loc (fun b => aF0 op a b K)) m c
 | .UnaryOp op x _, sc, loc, K, m, c => evE P fz cl x sc loc (fun v => unop op v K) m c
 | .BoolOp op vs _, sc, loc, K, m, c => evB P fz cl op vs sc loc K m c
 | .IfExp t b o _, sc, loc, K, m, c => evT P fz cl t sc loc (evE P fz cl t sc loc) (fun x m c => br x (evE P fz cl b sc loc K m c) (evE P fz cl o sc loc K m c)) m c
 | .Compare l ops rs _, sc, loc, K, m, c => chk (dZ9 ops rs) (evE P fz cl l sc loc (fun a => evK P fz cl ops rs sc loc a K) m c)
 | .Tuple es _ _, sc, loc, K, m, c => evL P fz cl es sc loc (fun vs => tupV vs K) m c
 | .List es _, sc, loc, K, m, c => evL P fz cl es sc loc (fun vs => newList vs K) m c
 | .Dict ks vs _, sc, loc, K, m, c => br ks.isEmpty (chk vs.isEmpty (K (.obj m.length) (m ++ [.dict []]) c)) (chk (bE6 ks vs && Nat.ble ks.length 15) (evD P fz cl ks (evVs P fz cl vs sc loc) sc loc (fun us => bG6 (keyN ks) m.length us K) (m ++ [.dict []]) c))
 | .Call f args kws pos, sc, loc, K, m, c => chk (kws.isEmpty && (Nat.blt args.length 29 && args.all aS6)) (evF P fz cl f pos sc loc (fun g => evL P fz cl args sc loc (fun vs => runC P fz cl g vs K)) m c)
 | .Attribute o x _, sc, loc, K, m, c => chk (bP4 o) (evE P fz cl o sc loc (fun a => getA P a x K) m c)
 | .Subscript o i _, sc, loc, K, m, c => evE P fz cl o sc loc (fun a m c => br (aK8 i) (evW P fz cl i sc loc (fun w => dA3 a w.1 w.2 K) m c) (evE P fz cl i sc loc (fun k => getI a k K) m c)) m c
 | .ListComp elt gens scope _, sc, loc, K, m, c => chk (cL1 scope sc (genX gens) loc) (evG P fz cl gens sc loc (fun l m c =>
   aZ9 (fun v loc K m c => setN (bD5 scope sc) (genX gens) v loc fun loc' => evE P fz cl elt (bD5 scope sc) loc' (fun y => K (y, loc')) m c) m.length (K (.obj m.length)) l (loc.filter fun p => scope.names.lookup p.1 == some .free) (m ++ [.pl []]) c) m c)
 | _, _, _, _, _, _ => False
noncomputable def evF (P : PI) (fz : Str -> Bool) (cl : Orc) : Expr -> Pos -> Scope -> Loc -> PT Callee
 | .Name x _, _, sc, loc, K, m, c => evN P sc x loc (fun a => getC P a K) m c
 | .Attribute o x ap, pos, sc, loc, K, m, c => chk (bP4 o && ap.endLine == pos.line) (evE P fz cl o sc loc (fun a => getM P a x K) m c)
 | _, _, _, _, _, _, _ => False
noncomputable def evW (P : PI) (fz : Str -> Bool) (cl : Orc) : Expr -> Scope -> Loc -> PT (MV × MV)
 | .Slice lo hi st _, sc, loc, K, m, c => chk st.isNone (evO P fz cl lo sc loc (fun l => evO P fz cl hi sc loc (fun h => K (l, h))) m c)
 | _, _, _, _, _, _ => False
noncomputable def evK (P : PI) (fz : Str -> Bool) (cl : Orc) : List CmpOp -> List Expr -> Scope -> Loc -> MV -> PT MV
 | [op], [r], sc, loc, a, K, m, c => evE P fz cl r sc loc (fun b => aG1 P op a b K) m c
 | _, _, _, _, _, _, _, _ => False
noncomputable def evT (P : PI) (fz : Str -> Bool) (cl : Orc) : Expr -> Scope -> Loc -> PT MV -> PT Bool
 | .UnaryOp op x _, sc, loc, w, K, m, c => match op with
  | .Not => evT P fz cl x sc loc (evE P fz cl x sc loc) (fun b => K !b) m c
  | _ => w (fun v => truK v K) m c
 | .BoolOp op vs _, sc, loc, _, K, m, c => evTs P fz cl op vs sc loc K m c
 | .IfExp .., _, _, _, _, _, _ => False
 | _, _, _, w, K, m, c => w (fun v => truK v K) m c
noncomputable def evTs (P : PI) (fz : Str -> Bool) (cl : Orc) : BoolOp -> List Expr -> Scope -> Loc -> PT Bool
 | .And, [], _, _, K, m, c => K true m c
 | .Or, [], _, _, K, m, c => K false m c
 | .And, x :: r, sc, loc, K, m, c => evT P fz cl x sc loc (evE P fz cl x sc loc) (fun b m c => br b (evTs P fz cl .And r sc loc K m c) (K false m c)) m c
 | .Or, x :: r, sc, loc, K, m, c => evT P fz cl x sc loc (evE P fz cl x sc loc) (fun b m c => br b (K true m c) (evTs P fz cl .Or r sc loc K m c)) m c
noncomputable def evB (P : PI) (fz : Str -> Bool) (cl : Orc) : BoolOp -> List Expr -> Scope -> Loc -> PT MV
 | _, [], _, _, _, _, _ => False
 | op, x :: r, sc, loc, K, m, c => evE P fz cl x sc loc (fun v m c => br r.isEmpty (K v m c) (truK v (fun b m c => br (op == .And) (br b (evB P fz cl op r sc loc K m c) (K v m c)) (br b (K v m c) (evB P fz cl op r sc loc K m c))) m c)) m c
noncomputable def evL (P : PI) (fz : Str -> Bool) (cl : Orc) : List Expr -> Scope -> Loc -> PT (List MV)
 | [], _, _, K, m, c => K [] m c
 | e :: r, sc, loc, K, m, c => evE P fz cl e sc loc (fun v => evL P fz cl r sc loc (fun vs => K (v :: vs))) m c
noncomputable def evO (P : PI) (fz : Str -> Bool) (cl : Orc) : Option Expr -> Scope -> Loc -> PT MV
 | none, _, _, K, m, c => K n_ m c
 | some e, sc, loc, K, m, c => evE P fz cl e sc loc K m c
noncomputable def evD (P : PI) (fz : Str -> Bool) (cl : Orc) : List (Option Expr) -> List (PT MV) -> Scope -> Loc -> PT (List (PV × MV))
 | [], [], _, _, K, m, c => K [] m c
 | k :: ks, v :: vs, sc, loc, K, m, c => evO P fz cl k sc loc (fun a => v (fun b m c => onP a fun a => evD P fz cl ks vs sc loc (fun r => K ((a, b) :: r)) m c)) m c
 | _, _, _, _, _, _, _ => False
noncomputable def evVs (P : PI) (fz : Str -> Bool) (cl : Orc) : List Expr -> Scope -> Loc -> List (PT MV)
 | [], _, _ => []
 | e :: r, sc, loc => evE P fz cl e sc loc :: evVs P fz cl r sc loc
noncomputable def evG (P : PI) (fz : Str -> Bool) (cl : Orc) : List Comprehension -> Scope -> Loc -> PT (List PV)
 | [g], sc, loc, K, m, c => evG1 P fz cl g sc loc K m c
 | _, _, _, _, _, _ => False
noncomputable def evG1 (P : PI) (fz : Str -> Bool) (cl : Orc) : Comprehension -> Scope -> Loc -> PT (List PV)
 | ⟨.Name _ _, iter, [], 0⟩, sc, loc, K, m, c => evE P fz cl iter sc loc (fun it m c => onP it fun it => onT it fun l => K l m c) m c
 | _, _, _, _, _, _ => False
end
noncomputable def evA (P : PI) (fz : Str -> Bool) (cl : Orc) (sc : Scope) (t : Expr) (v : MV) (loc : Loc) : PT Loc := fun K m c => match t with
 | .Name x _ => setN sc x v loc fun loc' => K loc' m c
 | .Attribute o x _ => evE P fz cl o sc loc (fun a => setA P a x v (fun _ => K loc)) m c
 | .Subscript o i _ => chk (!aK8 i) (evE P fz cl o sc loc (fun a => evE P fz cl i sc loc (fun k => setI a k v (fun _ => K loc))) m c)
 | .Tuple ts _ _ => onP v fun v => onT v fun vs => aW0 sc ts vs loc fun loc' => K loc' m c
 | _ => False
noncomputable def eF4 (P : PI) (fz : Str -> Bool) (cl : Orc) (sc : Scope) (t : Expr) (op : Operator) (e : Expr) (loc : Loc) : PT Loc := fun K m c => match t with
 | .Name x _ => setN sc x n_ loc fun _ => som (loc.lookup x) fun a => evE P fz cl e sc loc (fun b => iop op a b (fun u m c => setN sc x u loc fun loc' => K loc' m c)) m c
 | .Attribute o x _ => evE P fz cl o sc loc (fun a => getA P a x (fun u => evE P fz cl e sc loc (fun b => iop op u b (fun w => setA P a x w (fun _ => K loc))))) m c
 | .Subscript o i _ => chk (!aK8 i) (evE P fz cl o sc loc (fun a => evE P fz cl i sc loc (fun k => getI a k (fun u => evE P fz cl e sc loc (fun b => iop op u b (fun w => setI a k w (fun _ => K loc)))))) m c)
 | _ => False
noncomputable def cJ7 (K : Kt (Flw × Loc)) (go : Loc -> Mem -> Nat -> Prop) : Kt (Flw × Loc) := fun x m c => match x.1 with
 | .next => go x.2 m c
 | .brk => K (.brk, x.2) m c
 | .cont => K (.cont, x.2) m c
 | .ret v => K (.ret v, x.2) m c
mutual
noncomputable def evS (P : PI) (fz : Str -> Bool) (cl : Orc) : Stmt -> Scope -> Loc -> PT (Flw × Loc)
 | .Expr e _, sc, loc, K, m, c => chk (!bS e) (evE P fz cl e sc loc (fun _ => K (.next, loc)) m c)
 | .Pass _, _, loc, K, m, c => K (.next, loc) m c
 | .Break _, _, loc, K, m, c => K (.brk, loc) m c
 | .Continue _, _, loc, K, m, c => K (.cont, loc) m c
 | .Return e _, sc, loc, K, m, c => evO P fz cl e sc loc (fun v => K (.ret v, loc)) m c
 | .Assign ts e _, sc, loc, K, m, c => match ts with
  | [t] => chk (cT2 t && !(bS e || (aX5 t && aX5 e))) (evE P fz cl e sc loc (fun v => evA P fz cl sc t v loc (fun loc' => K (.next, loc'))) m c)
  | _ => False
 | .AugAssign t op e _, sc, loc, K, m, c => eF4 P fz cl sc t op e loc (fun loc' => K (.next, loc')) m c
 | .If t b o _, sc, loc, K, m, c => evT P fz cl t sc loc (evE P fz cl t sc loc) (fun x m c => br x (evSs P fz cl b sc loc K m c) (evSs P fz cl o sc loc K m c)) m c
 | .While t b o _, sc, loc, K, m, c => chk o.isEmpty (∃ n, aL9 (fun loc => evT P fz cl t sc loc (evE P fz cl t sc loc)) (evSs P fz cl b sc) K n loc m c)
 | .For t iter b o _, sc, loc, K, m, c => chk o.isEmpty (evE P fz cl iter sc loc (fun it => forV (fun v loc K => evA P fz cl sc t v loc (fun loc' => evSs P fz cl b sc loc' K)) it loc K) m c)
 | _, _, _, _, _, _ => False
noncomputable def evSs (P : PI) (fz : Str -> Bool) (cl : Orc) : List Stmt -> Scope -> Loc -> PT (Flw × Loc)
 | [], _, loc, K, m, c => K (.next, loc) m c
 | s :: r, sc, loc, K, m, c => evS P fz cl s sc loc (cJ7 K fun loc => evSs P fz cl r sc loc K) m c
end
noncomputable def aR8 (gc : Bool) (n : Nat) (K : Kt MV) : Kt (Flw × Loc) := fun x m c => match x.1 with
 | .ret v => br gc (bJ9 n v K m c) (K v m c)
 | .next => br gc (bJ9 n n_ K m c) (K n_ m c)
 | _ => False
noncomputable def cD8 (P : PI) (fz : Str -> Bool) (gc : Bool) (cl : Orc) (fi : FnI) (args : List MV) : PT MV := fun K m c =>
 chk (Nat.beq args.length fi.params.length) (evSs P fz cl fi.body fi.scope (fi.params.zip args) (aR8 gc m.length K) m c)
structure How where
 stop : Str -> Str -> Bool
 gc : Str -> Bool
 fz : Str -> Bool
noncomputable def inl (P : PI) (H : How) (G : Orc) : Nat -> Orc
 | 0, x, f, args, K, m, c => G x f args K m c
 | n + 1, x, f, args, K, m, c => br (H.stop x f) (G x f args K m c) (som (P.fn x f) fun fi => cD8 P H.fz (H.gc f) (inl P H G n) fi args K m c)
noncomputable abbrev pw : Program := PySem.Challenge.pw_sa0273_01
noncomputable def hsL : List Nat -> Nat -> Nat
 | [], a => a
 | c :: r, a => hsL r ((a * 1024 + c) % 4294967291)
noncomputable def hs (x : Str) : Nat := hsL x.cps.toList 1
noncomputable def aD : Scope := ⟨.function, [], false, false, []⟩
noncomputable def cD0 : Expr := .Constant .none 0 default
noncomputable def atS (l : List Stmt) (k : Nat) : Stmt := l.getD k (.Pass default)
noncomputable def topS (k : Nat) : Stmt := atS pw.main.body k
noncomputable def eB5 : Arguments -> List Str
 | ⟨_, as, _, _, _, _, _⟩ => as.map (·.arg)
noncomputable def bU1 : Expr -> List Expr × Pos × Nat × Scope
 | .BinOp l _ r p => ([l, r], p, 0, aD)
 | .Name _ p => ([], p, 0, aD)
 | .Constant _ k p => ([], p, k, aD)
 | .Tuple es k p => (es, p, k, aD)
 | .Call f as _ p => (f :: as, p, 0, aD)
 | .ListComp e gs sc p => (e :: gs.flatMap fun g => [g.target, g.iter], p, 0, sc)
 | .Subscript a i p => ([a, i], p, 0, aD)
 | .Slice _ h _ p => (h.toList, p, 0, aD)
 | _ => ([], default, 0, aD)
noncomputable def kE (e : Expr) (i : Nat) : Expr := (bU1 e).1.getD i cD0
noncomputable def eF9 : List Expr -> Str
 | [.Name x _] => x
 | _ => V ""
noncomputable def aQ6 : Stmt -> Nat × Str × List Stmt × List Stmt × List Expr × Scope × List Str × Pos
 | .FunctionDef n a b _ _ _ sc _ _ p => (0, n, b, [], [], sc, eB5 a, p)
 | .ClassDef n _ _ b _ _ _ _ _ _ p => (1, n, b, [], [], aD, [], p)
 | .Assign ts e p => (2, eF9 ts, [], [], e :: ts, aD, [], p)
 | .If t b o p => (3, V "", b, o, [t], aD, [], p)
 | .For t _ b _ p => (3, V "", b, [], [t], aD, [], p)
 | .While t b _ p => (3, V "", b, [], [t], aD, [], p)
 | .Return e p => (3, V "", [], [], e.toList, aD, [], p)
 | .Expr e p => (3, V "", [], [], [e], aD, [], p)
 | _ => (3, V "", [], [], [], aD, [], default)
noncomputable def aL1 (s : Stmt) : List Stmt := (aQ6 s).2.2.1
noncomputable def nmS (s : Stmt) : Str := (aQ6 s).2.1
noncomputable def exS (s : Stmt) : Expr := (aQ6 s).2.2.2.2.1.headD cD0
noncomputable def fiS (s : Stmt) : Option FnI := match aQ6 s with
 | (0, _, b, _, _, sc, ps, _) => some ⟨ps, b, sc⟩
 | _ => none
noncomputable def dO0 (s : Stmt) : Bool := nmS s == V "__init__"
noncomputable def clS (s : Stmt) : Option Bool := match aQ6 s with
 | (1, _, b, _) => some (b.any dO0)
 | _ => none
noncomputable def gT : List (Nat × Nat) := [(2230397357, 6), (2230403484, 7), (3296790946, 8), (1123377, 9), (1135665, 10), (1123378, 11), (1135666, 12), (1123380, 13),
 (1135668, 14), (1123384, 15), (1135672, 16), (2224111027, 17), (3665712814, 18), (3675184299, 19), (1154922164, 20), (1780592185, 21),
 (1535836081, 22), (2877203055, 23), (3962505554, 24), (747524223, 25), (3968755057, 26), (3312885445, 27), (2613764017, 28), (1827562853, 29),
 (1821291879, 30), (3296127681, 31), (3308691146, 32), (1011080956, 33), (2327054925, 34), (1796315705, 35), (3666742559, 36), (3568427705, 37),
 (2837982470, 38), (424207820, 39), (4046624011, 40), (3992217442, 41), (3518872305, 42), (1233611868, 43), (1749118078, 44), (4121557076, 45),
 (1277646579, 46), (2637772015, 47), (3731078344, 48), (1594083811, 49), (517719757, 50), (1045148625, 51), (530039786, 52), (117947372, 53),
 (247156565, 54), (2492694612, 55), (1570498556, 56), (2649463935, 57), (3971829134, 58), (4219380335, 60), (3009125644, 61), (3085645783, 62),
 (117925878, 63), (3890083751, 64), (2405954519, 65), (3988748065, 66), (3556766274, 68), (1176957173, 70), (1280221823, 72), (1268680567, 73),
 (1533214652, 74), (3418264933, 75), (4209620271, 76), (2611146658, 77), (3302411457, 78), (452135841, 79), (3304508618, 80), (2051393617, 81),
 (972154190, 82), (4149272781, 83), (99703228, 84), (3291929793, 85), (3290886327, 86), (99697088, 87), (466817945, 88), (1670329425, 89),
 (466817963, 90), (99690945, 91), (99682753, 92), (2042749512, 93), (3835655258, 94), (3425595235, 95), (965326409, 96), (1534260147, 97),
 (994961465, 98), (1266577545, 99), (3309751492, 100), (1540557727, 101), (3308702905, 102), (1543706548, 103), (2231843589, 104), (210663793, 105),
 (425650896, 106), (2617187239, 107), (4234042727, 108), (3320916394, 109), (4227787356, 110), (3320911283, 111), (3296123845, 112), (2522609867, 113),
 (2076071281, 114), (1883481164, 115), (3151341832, 116), (4237223790, 117), (3310806988, 118), (3154045037, 119), (996234757, 120), (999200606, 121),
 (460270505, 122), (3160319590, 123), (480837547, 124), (1747339083, 125), (1805216421, 126), (467301054, 127), (464171724, 128), (3922400891, 129),
 (449763261, 130), (1025072855, 131), (452910031, 132), (1301627546, 133), (1164018802, 134), (1120366, 135), (1189194205, 136), (512463364, 137),
 (793239252, 138), (519538075, 139), (1042790364, 140), (2119498990, 141), (113367539, 142), (2414874256, 144), (4286818486, 145), (1153547383, 146),
 (15417246, 147), (3978213220, 148), (2158703535, 149), (2901290347, 150), (1194431601, 151), (3752306384, 152), (3133741077, 153), (2668614902, 154),
 (1191289966, 155), (3717931557, 156), (505928703, 157), (1737227902, 158), (3698478550, 160), (155398072, 161), (2792123216, 162), (3755431068, 163),
 (1069220767, 164), (747559535, 165), (3103902962, 166), (2404628597, 167), (1764367143, 168), (2903662608, 169), (1578984187, 170), (2031188969, 171),
 (2891612625, 172), (1863835607, 173), (3348594411, 174), (1082080290, 175), (111669240, 176), (2659176449, 177), (1538724383, 178), (3184201125, 180),
 (1154159, 181), (3745472678, 182), (4281300703, 183), (1305996019, 184), (2684319450, 185), (3227103900, 186), (3347489005, 187), (1069132454, 188),
 (1732136685, 189), (3114379241, 190), (3220848529, 191), (3347483894, 192), (441706504, 193), (3620518078, 194), (1073432500, 195), (3720709463, 196),
 (4187046546, 197), (983936252, 198), (3068914403, 199), (3919165300, 200), (456389647, 201), (2146112430, 202), (2147106210, 203), (3295106232, 204),
 (2344809000, 206), (3269741136, 207), (3451454346, 208), (3830323591, 209), (2364085141, 210), (2397252182, 211), (1693310580, 212), (952749886, 213),
 (615375223, 214), (1300828039, 215), (2398318166, 216), (3437841307, 217), (1300828044, 218), (1300847514, 219), (1693352818, 220), (1459687641, 221),
 (3843936647, 222), (2250599404, 223), (613312890, 224), (622750578, 225), (1290339211, 226), (1696491643, 227), (2359897983, 228), (216597392, 229),
 (236524411, 230), (2892273824, 231), (4154700296, 232), (963234652, 233), (1294550944, 234), (2763950687, 235), (1297693583, 236), (2379813783, 237),
 (2282571479, 238), (1187087479, 239)]
noncomputable def mT : List (Nat × Nat × Nat) := [(4999422690806920498, 134, 0), (10371805954659433591, 144, 0), (13833439098611809399, 191, 0), (14377333849803832439, 192, 0),
 (5054992571115435314, 70, 0), (5054992568018916468, 70, 1), (5054992568005284980, 70, 2), (5054992570845229269, 70, 3),
 (4954448288659207474, 146, 0), (4954448285571073519, 146, 1), (4954448287714359808, 146, 2), (4954448285562688628, 146, 3),
 (4954448285549441252, 146, 4), (4954448284477405697, 146, 5), (4954448287708058092, 146, 6), (13252747729313133874, 62, 0),
 (1960178609285086327, 201, 0), (18411745201369903096, 145, 0), (18411745204986415857, 145, 1), (7439470415463955575, 189, 0),
 (506487793649906994, 63, 0), (9221750954175609975, 203, 0), (4811939617371442, 135, 0), (14377355801381682295, 187, 0),
 (16832686792305130615, 200, 0), (1821958717895275826, 39, 0), (1821958714800847991, 39, 1), (1821958714798756980, 39, 2),
 (1897114990297594999, 193, 0), (5107550223355540786, 136, 0), (13860305712481156215, 186, 0), (4591888926209326199, 188, 0)]
noncomputable def aT : List (Nat × String × String) := [(4999422687694669927, "Var", "arg"), (4999422686637029106, "Var", "block"), (4999422686622358266, "Var", "flags"), (4999422689850539494, "Var", "kind"),
 (4999422687706195044, "Var", "lid"), (4999422688768408044, "Var", "name"), (4999422689857224707, "Var", "owner"), (5054992569091613183, "Diags", "rows"),
 (4954448284490383881, "Low", "exprs"), (4954448284372539502, "Low", "fn"), (4954448284372544628, "Low", "kt"), (4954448288108746219, "Low", "labels"),
 (4954448285561640052, "Low", "out"), (4954448288658204904, "Low", "spiller"), (4954448284487258116, "Low", "stmts"), (4954448284489353206, "Low", "store"),
 (4954448284604699113, "Low", "targets"), (4954448285560580613, "Low", "unit"), (13252747725527038960, "MethodDef", "access"), (13252747727289292273, "MethodDef", "body"),
 (13252747725128571642, "MethodDef", "flags"), (13252747727148401380, "MethodDef", "gbounds"), (13252747727690775275, "MethodDef", "gnames"), (13252747726213456996, "MethodDef", "mid"),
 (13252747727274621420, "MethodDef", "name"), (13252747726622014966, "MethodDef", "native"), (13252747727280904693, "MethodDef", "ngen"), (13252747728363438083, "MethodDef", "owner"),
 (13252747728763722239, "MethodDef", "params"), (13252747726616238842, "MethodDef", "pflags"), (13252747727702571755, "MethodDef", "pnames"), (13252747726218695796, "MethodDef", "ret"),
 (506487790556527083, "Store", "asms"), (506487791632761344, "Store", "entry"), (506487793362914497, "Store", "fields_"), (506487789363244148, "Store", "kt"),
 (506487789879548895, "Store", "methods"), (506487790551677675, "Store", "names"), (506487790554831113, "Store", "types"), (4811935330698356, "Fn", "at"),
 (4811937593529841, "Fn", "body"), (4811936516643306, "Fn", "elem"), (4811937592486369, "Fn", "fnid"), (4811935439754746, "Fn", "lids"),
 (4811936517694564, "Fn", "mid"), (4811939067959807, "Fn", "params"), (4811936522933364, "Fn", "ret"), (4811938667286016, "Fn", "sort"),
 (4811935579512464, "Fn", "this_kind"), (4811935330718832, "Fn", "up"), (1821958715202574847, "KindTable", "depths"), (1821958715861344767, "KindTable", "index"),
 (1821958713714926591, "KindTable", "opens"), (1821958715871453695, "KindTable", "rows"), (1821958717875676393, "KindTable", "weights"), (5107550220243291245, "Unit", "asm"),
 (5107550222807989242, "Unit", "consts"), (5107550220244717813, "Unit", "diags"), (5107550220248529011, "Unit", "fns"), (5107550221326867962, "Unit", "inits"),
 (5107550219596178140, "Unit", "of_mid"), (5107550222818467322, "Unit", "sinits"), (5107550219185686518, "Unit", "store"), (5107550221317033476, "Unit", "vars")]
noncomputable def bC3 {α : Type} (k : Nat) : List (Nat × α) -> Option α
 | [] => none
 | e :: r => match Nat.beq e.1 k with | true => some e.2 | false => bC3 k r
noncomputable def aX4 : Nat -> Expr -> Option PV
 | _, .Constant (.int i) _ _ => some (.int i)
 | _, .UnaryOp .USub (.Constant (.int i) _ _) _ => some (.int (-i))
 | _, .Constant (.str s) _ _ => some (.str s)
 | n + 1, .Name x _ => match bC3 (hs x) gT with
  | some i => cond (Nat.beq (aQ6 (topS i)).1 2) (aX4 n (exS (topS i))) none
  | none => none
 | n + 1, .Tuple es _ _ => match es.mapM (aX4 n) with
  | some l => some (.tup l)
  | none => none
 | _, _ => none
noncomputable def dE3 : Expr -> Option (List (Option Expr) × List Expr)
 | .Dict ks vs _ => some (ks, vs)
 | _ => none
noncomputable def valS (s : Stmt) : Option MV := match (aQ6 s).1 with
 | 2 => match dE3 (exS s) with
  | some _ => some (.glob (nmS s))
  | none => (aX4 4 (exS s)).map .p
 | 3 => none
 | _ => some (.glob (nmS s))
noncomputable def cK3 : List (Option Expr) -> List Expr -> Option (List (PV × MV))
 | [], [] => some []
 | some k :: ks, v :: vs => match aX4 4 k, aX4 4 v, cK3 ks vs with
  | some a, some b, some r => some ((a, .p b) :: r)
  | _, _, _ => none
 | _, _ => none
noncomputable def sdS (s : Stmt) : Option (List (PV × MV)) := (dE3 (exS s)).bind fun d => cK3 d.1 d.2
noncomputable def blts : List String := ["len", "range", "tuple", "list", "enumerate"]
noncomputable def bltT (x : Str) : Option MV := (blts.find? fun s => x == V s).map .blt
noncomputable def onS {α β : Type} (o : Option α) (n : β) (f : α -> β) : β := match o with
 | some a => f a
 | none => n
noncomputable def topD {α : Type} (f : Stmt -> Option α) (x : Str) (o : Option α) : Option α := onS (bC3 (hs x) gT) o fun i => cond (x == nmS (topS i)) (f (topS i)) o
noncomputable def topT {α : Type} (f : Stmt -> Option α) (x : Str) (o : Option α) : Option α := onS (topD f x none) o some
noncomputable def metS (e : Nat × Nat) : Stmt := atS (aL1 (topS e.1)) e.2
noncomputable def dH0 (o : Option MV) (x : Str) : Option MV := onS (bltT x) (topT valS x o) some
noncomputable def fnT (o : Option FnI) (c f : Str) : Option FnI := cond (Nat.beq (hs c) 1) (cond (c == V "") (topT fiS f o) o)
 (onS (bC3 (hs c * 4294967296 + hs f) mT) o fun e => cond (c == nmS (topS e.1) && f == nmS (metS e)) (onS (fiS (metS e)) o some) o)
noncomputable def dC0 (o : Bool) (c x : Str) : Bool := onS (bC3 (hs c * 4294967296 + hs x) aT) o fun e => cond (c == V e.1 && x == V e.2) true o
noncomputable def ext (P : PI) : PI where
 glob x := dH0 (P.glob x) x
 fn c f := fnT (P.fn c f) c f
 cls c := topD clS c (P.cls c)
 sd x := topT sdS x (P.sd x)
 attr c x := dC0 (P.attr c x) c x
noncomputable def argE (e : Expr) (k : Nat) : Expr := kE e (k + 1)
noncomputable def aO4 (s : Stmt) : Scope := (aQ6 s).2.2.2.2.2.1
noncomputable def forB (P : PI) (fz : Str -> Bool) (cl : Orc) (s : Stmt) (sc : Scope) (v : MV) (loc : Loc) : PT (Flw × Loc) :=
 fun K => evA P fz cl sc (exS s) v loc fun loc' => evSs P fz cl (aL1 s) sc loc' K
structure Cx where
 prog : Program
 w : World
 K : Frag
 p : Program
 loose : List Str
 mg : Str -> Option Value
 mb : Str -> Option Value
 h₀ : Heap
 clsA : Str -> Option Addr
structure Rho where
 a : List Addr
 f : List Addr
noncomputable def Rho.new (ρ : Rho) (b : Addr) : Rho := ⟨ρ.a ++ [b], ρ.f⟩
noncomputable def bltV (s : String) : Value := if s = "len" then .builtin "len" else .type s
noncomputable abbrev aW4 (its : Array Value) (n : Nat) : Obj := { cls := .type "tuple", data := .seq its n }
noncomputable def FinE : List Str -> List Value -> List DictEntry -> Prop
 | [], [], es => es = []
 | x :: xs, v :: vs, es => ∃ e r, es = e :: r /\ (∃ t, e.key = .str x t) /\ e.val = v /\ FinE xs vs r
 | _, _, _ => False
mutual
noncomputable def RepP (C : Cx) (h : Heap) (ρ : Rho) : PV -> Value -> Prop
 | .none, v => v = .none
 | .bool b, v => v = .bool b
 | .int i, v => ∃ t, v = .int i t
 | .str s, v => ∃ t, v = .str s t
 | .tup l, v => ∃ a vs n, v = .ref a /\ h.get? a = some (aW4 vs.toArray n) /\ a ∉ ρ.a /\ l.length <= bigN /\ RepPs C h ρ l vs
 | .fin c xs l, v => ∃ x dx A es n vs, v = .ref x /\ C.clsA c = some A /\ h.get? x = some (instObj A dx) /\ x ∉ ρ.a /\ h.get? dx = some (dictOf es n) /\ dx ∉ ρ.a /\ dx ∈ ρ.f /\ FinE xs vs es /\ RepPs C h ρ l vs
noncomputable def RepPs (C : Cx) (h : Heap) (ρ : Rho) : List PV -> List Value -> Prop
 | [], vs => vs = []
 | x :: l, vs => ∃ v r, vs = v :: r /\ RepP C h ρ x v /\ RepPs C h ρ l r
end
noncomputable def Rep (C : Cx) (h : Heap) (ρ : Rho) : MV -> Value -> Prop
 | .p x, v => RepP C h ρ x v
 | .obj i, v => ∃ a, ρ.a[i]? = some a /\ v = .ref a
 | .inst i c, v => ∃ x dx A, v = .ref x /\ ρ.a[i]? = some dx /\ C.clsA c = some A /\ h.get? x = some (instObj A dx) /\ x ∉ ρ.a
 | .glob s, v => nsIn C.K mainGlobals s = some (some v) /\ ∃ a, v = .ref a
 | .blt s, v => v = bltV s
 | .rng n, v => ∃ a t1 t2 t3, v = .ref a /\ IsRange h a 0 n 1 t1 t2 t3 /\ a ∉ ρ.a /\ n < 1000000
 | .frz l, v => ∃ a vs, v = .ref a /\ h.IsList a vs.toArray /\ a ∉ ρ.a /\ l.length <= bigN /\ RepPs C h ρ l vs
 | .any, v => ∃ a, v = .ref a
noncomputable def Reps (C : Cx) (h : Heap) (ρ : Rho) : List MV -> List Value -> Prop
 | [], vs => vs = []
 | x :: l, vs => ∃ v r, vs = v :: r /\ Rep C h ρ x v /\ Reps C h ρ l r
section
variable {α β γ : Type} {g : Prop}
theorem ex1 {p : α -> Prop} (h : ∃ x, p x) (k : ∀ x, p x -> g) : g := h.elim k
theorem ex2 {p : α -> β -> Prop} (h : ∃ x y, p x y) (k : ∀ x y, p x y -> g) : g := h.elim fun x h => h.elim fun y h => k x y h
theorem ex3 {p : α -> β -> γ -> Prop} (h : ∃ x y z, p x y z) (k : ∀ x y z, p x y z -> g) : g := h.elim fun x h => h.elim fun y h => h.elim fun z h => k x y z h
theorem aB {o : Option α} {k : α -> Prop} (e : som o k) (f : ∀ a, o = some a -> k a -> g) : g := by cases o <;> first | exact e.elim | exact f _ rfl e
theorem aA0 {b : Bool} {k : Prop} (e : chk b k) (f : b = true -> k -> g) : g := by cases b; exact e.elim; exact f rfl e
theorem aI9 {b : Bool} {k : Prop} (e : chk b k) : b = true /\ k := aA0 e fun q e => ⟨q, e⟩
theorem aA5 {v : MV} {k : PV -> Prop} (e : onP v k) (f : ∀ x, v = .p x -> k x -> g) : g := by cases v <;> first | exact e.elim | exact f _ rfl e
theorem aE1 {v : PV} {k : Int -> Prop} (e : onI v k) (f : ∀ x, v = .int x -> k x -> g) : g := by cases v <;> first | exact e.elim | exact f _ rfl e
theorem aG3 {v : PV} {k : List PV -> Prop} (e : onT v k) (f : ∀ x, v = .tup x -> k x -> g) : g := by cases v <;> first | exact e.elim | exact f _ rfl e
theorem aQ4 {v : MV} {k : Nat -> Prop} (e : onO v k) (f : ∀ x, v = .obj x -> k x -> g) : g := by cases v <;> first | exact e.elim | exact f _ rfl e
theorem aU2 {v : Int} {k : Nat -> Prop} (e : onN v k) (f : ∀ n : Nat, v = n -> n < 1000000 -> k n -> g) : g := by
 cases v
 ·exact aA0 e fun q e => f _ rfl (zzU q) e
 ·exact e.elim
theorem aC9 {o : Option MO} {k : List PV -> Prop} (e : atP o k) (f : ∀ l, o = some (.pl l) -> k l -> g) : g := by cases o; exact e.elim; rename_i o; cases o <;> first | exact e.elim | exact f _ rfl e
theorem aZ6 {o : Option MO} {k : List (PV × MV) -> Prop} (e : atD o k) (f : ∀ l, o = some (.dict l) -> k l -> g) : g := by cases o; exact e.elim; rename_i o; cases o <;> first | exact e.elim | exact f _ rfl e
theorem aS8 {o : Option MO} {k : List (Str × MV) -> Prop} (e : atA o k) (f : ∀ l, o = some (.attrs l) -> k l -> g) : g := by cases o; exact e.elim; rename_i o; cases o <;> first | exact e.elim | exact f _ rfl e
theorem bK {vs : List MV} {k : MV -> Prop} (e : one vs k) (f : ∀ v, vs = [v] -> k v -> g) : g := by
 cases vs with
 | nil => exact e.elim
 | cons v r => cases r <;> first | exact e.elim | exact f _ rfl e
theorem aN5 {a b : MV} {k : Int -> Int -> Prop} (e : int2 a b k) (f : ∀ i j, a = i_ i -> b = i_ j -> k i j -> g) : g :=
 aA5 e fun x ha e => aA5 e fun y hb e => aE1 e fun i hi e => aE1 e fun j hj e => f i j (ha.trans (congrArg MV.p hi)) (hb.trans (congrArg MV.p hj)) e
end
noncomputable def aD0 (o : Obj) : Bool := match o.data with
 | .dict .. => false
 | .fields _ => !(o.cls == .type "tuple_iterator" || o.cls == .type "range_iterator" || o.cls == .type "list_iterator" || o.cls == .type "enumerate")
 | _ => true
noncomputable def Keep (ρ : Rho) (h h' : Heap) : Prop := ∀ b o, h.get? b = some o -> b ∉ ρ.a -> h'.get? b = some o
noncomputable def aF1 (ρ : Rho) (h h' : Heap) : Prop := ∀ b o, h.get? b = some o -> b ∉ ρ.a -> (b ∈ ρ.f ∨ aD0 o = true) -> h'.get? b = some o
structure Less (ρ ρ' : Rho) (h : Heap) : Prop where
 out : ∀ a o, h.get? a = some o -> a ∉ ρ.a -> a ∉ ρ'.a
 fr : ∀ a, a ∈ ρ.f -> a ∈ ρ'.f
structure Grow (ρ ρ' : Rho) (h : Heap) : Prop extends Less ρ ρ' h where
 frn : ∀ a, a ∈ ρ'.f -> a ∈ ρ.f ∨ h.get? a = none
 at_ : ∀ {i : Nat} {a : Addr}, ρ.a[i]? = some a -> ρ'.a[i]? = some a
section
variable {C : Cx} {h h' h'' : Heap} {ρ ρ' ρ'' : Rho}
theorem Keep.d (k : Keep ρ h h') : aF1 ρ h h' := fun b o e n _ => k b o e n
theorem Keep.all (k : ∀ b o, h.get? b = some o -> h'.get? b = some o) : Keep ρ h h' := fun b o e _ => k b o e
theorem Less.refl : Less ρ ρ h := ⟨fun _ _ _ n => n, fun _ m => m⟩
theorem Grow.refl : Grow ρ ρ h := ⟨Less.refl, fun _ m => .inl m, fun e => e⟩
theorem aB2 (h : Heap) : h.get? h.objs.size = none := by
 unfold Heap.get?; rw [Array.getElem?_eq_none (nR _)]
theorem aC7 {a b : Addr} {o : Obj} (e : h.get? a = some o) (n : h.get? b = none) : a ≠ b := fun q => nomatch (q ▸ e).symm.trans n
theorem Grow.one {a : Addr} (e : h.get? a = none) : Grow ρ (ρ.new a) h :=
 ⟨⟨fun b o eb n q => (zzP.mp q).elim n fun q => aC7 eb e (zzJ.mp q), fun _ m => m⟩, fun _ m => .inl m, fun ei => (zzH (zzA.mp ei).1).trans ei⟩
theorem Keep.trans (k : Keep ρ h h') (g : Less ρ ρ' h) (k' : Keep ρ' h' h'') : Keep ρ h h'' := fun b o e n => k' b o (k b o e n) (g.out b o e n)
theorem Grow.trans (k : Keep ρ h h') (l : ∀ a o, h.get? a = some o -> ∃ o', h'.get? a = some o') (g : Grow ρ ρ' h) (g' : Grow ρ' ρ'' h') : Grow ρ ρ'' h :=
 ⟨⟨fun x o e n => g'.out x o (k x o e n) (g.out x o e n), fun x m => g'.fr x (g.fr x m)⟩, fun x m => (g'.frn x m).elim (g.frn x) fun e => .inr (by
  cases q : h.get? x with
  | none => rfl
  | some o => exact ex1 (l x o q) fun o' e' => nomatch e.symm.trans e'), fun e => g'.at_ (g.at_ e)⟩
theorem RepP.mono (k : aF1 ρ h h') (g : Less ρ ρ' h) (x : PV) : ∀ v, RepP C h ρ x v -> RepP C h' ρ' x v :=
 PV.rec (motive_1 := fun x => ∀ v, RepP C h ρ x v -> RepP C h' ρ' x v) (motive_2 := fun l => ∀ vs, RepPs C h ρ l vs -> RepPs C h' ρ' l vs)
  (fun _ r => r) (fun _ _ r => r) (fun _ _ r => r) (fun _ _ r => r)
  (fun _ ih _ r => ex3 r fun a vs n r => ⟨a, vs, n, r.1, k _ _ r.2.1 r.2.2.1 (.inr rfl), g.out _ _ r.2.1 r.2.2.1, r.2.2.2.1, ih _ r.2.2.2.2⟩)
  (fun _ _ _ ih _ r => ex3 r fun x dx A r => ex3 r fun es n vs r => ⟨x, dx, A, es, n, vs, r.1, r.2.1, k _ _ r.2.2.1 r.2.2.2.1 (.inr rfl), g.out _ _ r.2.2.1 r.2.2.2.1,
   k _ _ r.2.2.2.2.1 r.2.2.2.2.2.1 (.inl r.2.2.2.2.2.2.1), g.out _ _ r.2.2.2.2.1 r.2.2.2.2.2.1, g.fr _ r.2.2.2.2.2.2.1, r.2.2.2.2.2.2.2.1, ih _ r.2.2.2.2.2.2.2.2⟩)
  (fun _ r => r) (fun _ _ i1 i2 _ r => ex2 r fun v r' r => ⟨v, r', r.1, i1 _ r.2.1, i2 _ r.2.2⟩) x
theorem RepPs.mono (k : aF1 ρ h h') (g : Less ρ ρ' h) : ∀ l vs, RepPs C h ρ l vs -> RepPs C h' ρ' l vs := fun l => by
 induction l with
 | nil => exact fun _ r => r
 | cons x l ih => exact fun _ r => ex2 r fun v r' r => ⟨v, r', r.1, RepP.mono k g x v r.2.1, ih _ r.2.2⟩
theorem IsList.keep (k : aF1 ρ h h') {a : Addr} {its : Array Value} (n : a ∉ ρ.a) (x : h.IsList a its) : h'.IsList a its :=
 x.elim fun o x => x.2.2.elim fun m q => ⟨o, k _ _ x.1 n (.inr (congrArg (fun d => aD0 { o with data := d }) q)), x.2⟩
theorem Rep.mono (k : aF1 ρ h h') (g : Grow ρ ρ' h) : ∀ (x : MV) (v : Value), Rep C h ρ x v -> Rep C h' ρ' x v := fun x => by
 cases x with
 | p x => exact RepP.mono k g.toLess x
 | obj i => exact fun _ r => ex1 r fun a r => ⟨a, g.at_ r.1, r.2⟩
 | inst i c => exact fun _ r => ex3 r fun x dx A r => ⟨x, dx, A, r.1, g.at_ r.2.1, r.2.2.1, k _ _ r.2.2.2.1 r.2.2.2.2 (.inr rfl), g.out _ _ r.2.2.2.1 r.2.2.2.2⟩
 | glob s => exact fun _ r => r
 | blt s => exact fun _ r => r
 | rng n => exact fun _ r => ex2 r fun a t1 r => ex2 r fun t2 t3 r => ⟨a, t1, t2, t3, r.1, k _ _ r.2.1 r.2.2.1 (.inr rfl), g.out _ _ r.2.1 r.2.2.1, r.2.2.2⟩
 | any => exact fun _ r => r
 | frz l => exact fun _ r => ex2 r fun a vs r => ⟨a, vs, r.1, IsList.keep k r.2.2.1 r.2.1, r.2.1.elim fun o x => g.out _ o x.1 r.2.2.1, r.2.2.2.1, RepPs.mono k g.toLess l vs r.2.2.2.2⟩
theorem Reps.mono (k : aF1 ρ h h') (g : Grow ρ ρ' h) : ∀ l vs, Reps C h ρ l vs -> Reps C h' ρ' l vs := fun l => by
 induction l with
 | nil => exact fun _ r => r
 | cons x l ih => exact fun _ r => ex2 r fun v r' r => ⟨v, r', r.1, Rep.mono k g x v r.2.1, ih _ r.2.2⟩
end
theorem aA {a b : Bool} {g : Prop} (h : (a && b) = true) (k : a = true -> b = true -> g) : g := by
 cases a
 ·exact nomatch h
 ·exact k rfl h
theorem rd {h : Heap} {v v' : Value} {d : PyData} (e : v = v') (q : ∃ as, Reads h v' d as) : ∃ as, Reads h v d as := e ▸ q
theorem rds {h : Heap} {v v' : List Value} {d : List PyData} (e : v = v') (q : ∃ as, ReadsAll h v' d as) : ∃ as, ReadsAll h v d as := e ▸ q
mutual
noncomputable def toPy : PV -> PyData
 | .bool b => .bool b
 | .int i => .int i
 | .str s => .str s
 | .tup l => .tuple (aP4 l)
 | _ => .none
noncomputable def aP4 : List PV -> List PyData
 | [] => []
 | x :: l => toPy x :: aP4 l
end
section
variable {C : Cx} {h : Heap} {ρ : Rho}
theorem aF3 (x : PV) : ∀ (n : Nat) (v : Value), okE n x = true -> RepP C h ρ x v -> ∃ as, Reads h v (toPy x) as :=
 PV.rec (motive_1 := fun x => ∀ (n : Nat) (v : Value), okE n x = true -> RepP C h ρ x v -> ∃ as, Reads h v (toPy x) as)
  (motive_2 := fun l => ∀ (n : Nat) (vs : List Value), okEs n l = true -> RepPs C h ρ l vs -> ∃ as, ReadsAll h vs (aP4 l) as)
  (fun _ v _ r => rd r ⟨_, Reads.none⟩) (fun b _ v _ r => rd r ⟨_, Reads.bool b⟩) (fun i _ v _ r => ex1 r fun t r => rd r ⟨_, Reads.int i t⟩) (fun x _ v _ r => ex1 r fun t r => rd r ⟨_, Reads.str x t⟩)
  (fun l ih n v p r => by
   cases n with
   | zero => exact nomatch p
   | succ n => exact ex3 r fun a vs m r => (ih n vs p r.2.2.2.2).elim fun as q => rd r.1 ⟨_, Reads.tuple r.2.1 rfl rfl q⟩)
  (fun c xs l _ n v p _ => by cases n <;> exact nomatch p)
  (fun _ vs _ r => rds r ⟨_, ReadsAll.nil⟩)
  (fun x l i1 i2 n vs p r => aA (show (okE n x && okEs n l) = true from p) fun p1 p2 => ex2 r fun v r' r => (i1 n v p1 r.2.1).elim fun as q1 => (i2 n r' p2 r.2.2).elim fun bs q2 => rds r.1 ⟨_, ReadsAll.cons q1 q2⟩) x
theorem aN4 : ∀ (l : List PV) {n : Nat} {vs : List Value}, okEs n l = true -> RepPs C h ρ l vs -> ∃ as, ReadsAll h vs (aP4 l) as := fun l => by
 induction l with
 | nil => exact fun _ r => rds r ⟨_, ReadsAll.nil⟩
 | cons x l ih => exact fun {n} _ p r => aA (show (okE n x && okEs n l) = true from p) fun p1 p2 => ex2 r fun v r' r => (aF3 x n v p1 r.2.1).elim fun as q1 => (ih p2 r.2.2).elim fun bs q2 => rds r.1 ⟨_, ReadsAll.cons q1 q2⟩
theorem aO3 (x : PV) : ∀ n, okE n x = true -> (toPy x).canLay0 = true /\ (toPy x).depth <= n :=
 PV.rec (motive_1 := fun x => ∀ n, okE n x = true -> (toPy x).canLay0 = true /\ (toPy x).depth <= n)
  (motive_2 := fun l => ∀ n, okEs n l = true -> PyData.canLayAll0 (aP4 l) = true /\ PyData.depthAll (aP4 l) <= n)
  (fun n _ => ⟨rfl, zzN n⟩) (fun _ n p => by cases n <;> exact nomatch p) (fun _ n _ => ⟨rfl, zzN n⟩)
  (fun x n p => ⟨by cases n <;> exact p, zzN n⟩)
  (fun l ih n p => by
   cases n with
   | zero => exact nomatch p
   | succ n => exact ⟨(ih n p).1, zzd (ih n p).2⟩)
  (fun _ _ _ _ n p => by cases n <;> exact nomatch p) (fun n _ => ⟨rfl, zzN n⟩)
  (fun x l i1 i2 n p => aA (show (okE n x && okEs n l) = true from p) fun p1 p2 => ⟨(Bool.and_eq_true_iff).mpr ⟨(i1 n p1).1, (i2 n p2).1⟩, zzW.mpr ⟨(i1 n p1).2, (i2 n p2).2⟩⟩) x
theorem aY6 : ∀ (l : List PV) {n : Nat}, okEs n l = true -> PyData.canLayAll0 (aP4 l) = true /\ PyData.depthAll (aP4 l) <= n := fun l => by
 induction l with
 | nil => exact fun _ => ⟨rfl, zzN _⟩
 | cons x l ih => exact fun {n} p => aA (show (okE n x && okEs n l) = true from p) fun p1 p2 => ⟨(Bool.and_eq_true_iff).mpr ⟨(aO3 x n p1).1, (ih p2).1⟩, zzW.mpr ⟨(aO3 x n p1).2, (ih p2).2⟩⟩
theorem bF0 (x : PV) : ∀ n m y, okE n x = true -> okE m y = true -> PyData.eqv (toPy x) (toPy y) = peq x y :=
 PV.rec (motive_1 := fun x => ∀ n m y, okE n x = true -> okE m y = true -> PyData.eqv (toPy x) (toPy y) = peq x y)
  (motive_2 := fun l => ∀ n m r, okEs n l = true -> okEs m r = true -> PyData.eqvAll (aP4 l) (aP4 r) = peqs l r)
  (fun n m y p q => by cases y <;> first | rfl | (cases m <;> exact nomatch q))
  (fun _ n m y p q => by cases n <;> exact nomatch p)
  (fun i n m y p q => by cases y <;> first | rfl | (cases m <;> exact nomatch q))
  (fun i n m y p q => by cases y <;> first | rfl | (cases m <;> exact nomatch q))
  (fun l ih n m y p q => by
   cases n with
   | zero => exact nomatch p
   | succ n =>
    cases y with
    | tup r => cases m with
     | zero => exact nomatch q
     | succ m => exact ih n m r p q
    | _ => rfl)
  (fun _ _ _ _ n m y p q => by cases n <;> exact nomatch p)
  (fun n m r p q => by cases r <;> rfl)
  (fun x l i1 i2 n m r p q => by
   cases r with
   | nil => rfl
   | cons y r => exact aA (show (okE n x && okEs n l) = true from p) fun p1 p2 => aA (show (okE m y && okEs m r) = true from q) fun q1 q2 => congr (congrArg and (i1 n m y p1 q1)) (i2 n m r p2 q2)) x
end
end
section
open PySem PySem.W PyProof.Rows PyProof.V
open scoped Classical
section
variable {C : Cx} {h : Heap} {ρ ρ' : Rho}
theorem aG5 (x : PV) : ∀ n, okK n x = true -> okE n x = true :=
 PV.rec (motive_1 := fun x => ∀ n, okK n x = true -> okE n x = true) (motive_2 := fun l => ∀ n, okKs n l = true -> okEs n l = true)
  (fun n p => by cases n <;> exact nomatch p) (fun _ n p => by cases n <;> exact nomatch p) (fun _ n _ => rfl) (fun _ n p => p)
  (fun l ih n p => by
   cases n with
   | zero => exact nomatch p
   | succ n => exact ih n p)
  (fun _ _ _ _ n p => by cases n <;> exact nomatch p) (fun n _ => rfl)
  (fun x l i1 i2 n p => aA (show (okK n x && okKs n l) = true from p) fun p1 p2 => Bool.and_eq_true_iff.mpr ⟨i1 n p1, i2 n p2⟩) x
theorem bV3 (x : PV) : ∀ n v, okK n x = true -> RepP C h ρ x v -> RepP C h ⟨[], []⟩ x v :=
 PV.rec (motive_1 := fun x => ∀ n v, okK n x = true -> RepP C h ρ x v -> RepP C h ⟨[], []⟩ x v) (motive_2 := fun l => ∀ n vs, okKs n l = true -> RepPs C h ρ l vs -> RepPs C h ⟨[], []⟩ l vs)
  (fun _ _ _ r => r) (fun _ _ _ _ r => r) (fun _ _ _ _ r => r) (fun _ _ _ _ r => r)
  (fun l ih n _ p r => by
   cases n with
   | zero => exact nomatch p
   | succ n => exact ex3 r fun a vs m r => ⟨a, vs, m, r.1, r.2.1, List.not_mem_nil, r.2.2.2.1, ih n vs p r.2.2.2.2⟩)
  (fun _ _ _ _ n _ p => by cases n <;> exact nomatch p) (fun _ _ _ r => r)
  (fun x l i1 i2 n _ p r => aA (show (okK n x && okKs n l) = true from p) fun p1 p2 => ex2 r fun v r' r => ⟨v, r', r.1, i1 n v p1 r.2.1, i2 n r' p2 r.2.2⟩) x
theorem aV5 {b : Bool} {p : Prop} (e : b = false) (n : ¬ p) : (b = true ↔ p) := ⟨fun q => (nomatch e.symm.trans q), fun q => (n q).elim⟩
theorem bN8 (x : PV) : ∀ n m y, okK n x = true -> okK m y = true -> (peq x y = true ↔ x = y) :=
 PV.rec (motive_1 := fun x => ∀ n m y, okK n x = true -> okK m y = true -> (peq x y = true ↔ x = y)) (motive_2 := fun l => ∀ n m r, okKs n l = true -> okKs m r = true -> (peqs l r = true ↔ l = r))
  (fun n m y p => by cases n <;> exact nomatch p) (fun _ n m y p => by cases n <;> exact nomatch p)
  (fun i n m y p q => by
   cases y with
   | int j => exact ⟨fun e => congrArg PV.int (of_decide_eq_true e), fun e => decide_eq_true (PV.int.inj e)⟩
   | _ => exact aV5 rfl fun e => nomatch e)
  (fun i n m y p q => by
   cases y with
   | str j => exact ⟨fun e => congrArg PV.str (of_decide_eq_true e), fun e => decide_eq_true (PV.str.inj e)⟩
   | _ => exact aV5 rfl fun e => nomatch e)
  (fun l ih n m y p q => by
   cases n with
   | zero => exact nomatch p
   | succ n =>
    cases y with
    | tup r => cases m with
     | zero => exact nomatch q
     | succ m => exact ⟨fun e => congrArg PV.tup ((ih n m r p q).mp e), fun e => (ih n m r p q).mpr (PV.tup.inj e)⟩
    | _ => exact aV5 rfl fun e => nomatch e)
  (fun _ _ _ _ n m y p => by cases n <;> exact nomatch p)
  (fun n m r p q => by
   cases r with
   | nil => exact ⟨fun _ => rfl, fun _ => rfl⟩
   | cons => exact aV5 rfl fun e => nomatch e)
  (fun x l i1 i2 n m r p q => by
   cases r with
   | nil => exact aV5 rfl fun e => nomatch e
   | cons y r => exact aA (show (okK n x && okKs n l) = true from p) fun p1 p2 => aA (show (okK m y && okKs m r) = true from q) fun q1 q2 =>
     ⟨fun e => aA e fun e1 e2 => congr (congrArg List.cons ((i1 n m y p1 q1).mp e1)) ((i2 n m r p2 q2).mp e2),
      fun e => Bool.and_eq_true_iff.mpr ⟨(i1 n m y p1 q1).mpr (List.cons.inj e).1, (i2 n m r p2 q2).mpr (List.cons.inj e).2⟩⟩) x
theorem aZ0 {n m : Nat} {x y : PV} (p : okK n x = true) (q : okK m y = true) : peq x y = decide (x = y) := by
 rw [Bool.eq_iff_iff, decide_eq_true_iff]; exact bN8 x n m y p q
theorem cX0 {n m : Nat} {x y : PV} {v : Value} (p : okK n x = true) (q : okK m y = true) (r : RepP C h ρ x v) (r' : RepP C h ρ' y v) : x = y :=
 ex1 (aF3 x n v (aG5 x n p) r) fun as r => ex1 (aF3 y m v (aG5 y m q) r') fun bs r' => by
  have e := (Reads.unique r _ _ r').1
  exact (bN8 x n m y p q).mp ((bF0 x n m y (aG5 x n p) (aG5 y m q)).symm.trans (e ▸ SeqAt.eqv_refl _ (aO3 x n (aG5 x n p)).1))
mutual
noncomputable def keyHash (C : Cx) : PV -> Int
 | .int i => hashInt i
 | .str x => hashStr C.w x
 | .tup l => reduceHash (Builtin.Tuple.tupleHashOf (aF C l))
 | _ => 0
noncomputable def aF (C : Cx) : List PV -> List Int
 | [] => []
 | x :: l => keyHash C x :: aF C l
end
mutual
noncomputable def aJ5 : PV -> Nat
 | .tup l => aC8 l + 1
 | _ => 1
noncomputable def aC8 : List PV -> Nat
 | [] => 0
 | x :: l => aJ5 x + aC8 l
end
theorem aM2 (l r : List PV) : aF C (l ++ r) = aF C l ++ aF C r := by
 induction l with
 | nil => rfl
 | cons x l ih => exact congrArg _ ih
theorem aM3 (l r : List PV) : aC8 (l ++ r) = aC8 l + aC8 r := by
 induction l with
 | nil => exact (Nat.zero_add _).symm
 | cons x l ih => exact (congrArg (aJ5 x + ·) ih).trans (Nat.add_assoc _ _ _).symm
noncomputable def isAt (n : Nat) (k : PV) (v : Value) : Bool := match k with
 | .int i => Nat.beq n 0 && v.isInt i
 | .str x => Nat.beq n 1 && v.isStrOf x
 | _ => false
theorem aU9 {n : Nat} {i : Int} {v : Value} (p : isAt n (.int i) v = true) : ∃ t, v = .int i t := aA p fun _ p => Value.isInt_shape p
theorem aT2 {n : Nat} {x : Str} {v : Value} (p : isAt n (.str x) v = true) : ∃ t, v = .str x t := aA p fun _ p => Value.isStrOf_shape p
theorem bL0 {n : Nat} {k : PV} {v : Value} {Q : Int -> Shared -> Prop} (p : isAt n k v = true) (q : Q (keyHash C k) { s with toks := s.toks + 1 }) : wpAny (model C.prog C.w) A (PySem.pyHash v) Q E s := by
 cases k with
 | int i => exact ex1 (aU9 p) fun t e => e ▸ wpAny_pyHash_int q
 | str x => exact ex1 (aT2 p) fun t e => e ▸ wpAny_pyHash_str q
 | _ => exact nomatch p
theorem no01 {g : Prop} {n : Nat} (p : Nat.beq n 0 = true) (q : Nat.beq n 1 = true) : g := nomatch (zzX p).symm.trans (zzX q)
theorem aM6 {n : Nat} {a b : PV} {u v : Value} {g : Prop} (p : isAt n a u = true) (q : isAt n b v = true) (h0 : ∀ i j t t', a = .int i -> b = .int j -> u = .int i t -> v = .int j t' -> g)
  (h1 : ∀ x y t t', a = .str x -> b = .str y -> u = .str x t -> v = .str y t' -> g) : g := by
 cases a with
 | int i => cases b with
  | int j => exact ex1 (aU9 p) fun t e => ex1 (aU9 q) fun t' e' => h0 i j t t' rfl rfl e e'
  | str y => exact aA p fun p _ => aA q fun q _ => no01 p q
  | _ => exact nomatch q
 | str x => cases b with
  | str y => exact ex1 (aT2 p) fun t e => ex1 (aT2 q) fun t' e' => h1 x y t t' rfl rfl e e'
  | int j => exact aA p fun p _ => aA q fun q _ => no01 q p
  | _ => exact nomatch q
 | _ => exact nomatch p
theorem bN {α β : Type} [DecidableEq α] [DecidableEq β] [BEq α] [LawfulBEq α] {f : α -> β} (h : ∀ a b, f a = f b -> a = b) (a b : α) : (a == b) = decide (f a = f b) := by
 rw [Bool.eq_iff_iff, decide_eq_true_iff, beq_iff_eq]; exact ⟨congrArg f, h a b⟩
noncomputable def aC3 (C : Cx) (n : Nat) : PySem.KeyKind C.prog C.w PV := by
 refine ⟨isAt n, keyHash C, fun v a b p q => ?_, fun k v p => ?_, bL0, fun {A E s a b u v Q} p q k => ?_, fun k x t v p => ?_⟩
 ·exact aM6 p q (fun i j t t' ea eb e e' => by subst ea eb e; cases e'; rfl) (fun i j t t' ea eb e e' => by subst ea eb e; cases e'; rfl)
 ·exact aM6 p p (fun i j t t' _ _ e _ => e ▸ rfl) (fun i j t t' _ _ e _ => e ▸ rfl)
 ·exact aM6 p q (fun i j t t' ea eb e e' => by subst ea eb e e'; exact wpAny_eqBool_int (bN (fun _ _ => PV.int.inj) i j ▸ k)) (fun i j t t' ea eb e e' => by subst ea eb e e'; exact wpAny_eqBool_str ((decide_eq_decide (p := PV.str i = PV.str j)).mpr ⟨PV.str.inj, congrArg _⟩ ▸ k))
 ·exact aM6 p p (fun i j t t' _ _ e _ => nomatch e) (fun i j t t' ea _ e _ => by
   cases e; subst ea
   exact (congrArg (· && v.isStrOf x) (aA p fun p _ => p)).trans (by cases v <;> rfl))
end
noncomputable abbrev ρ0 : Rho := ⟨[], []⟩
section
variable {C : Cx}
theorem aI6 {n : Nat} {x : PV} {h : Heap} {v : Value} {g : Prop} (p : okK n x = true) (r : RepP C h ρ0 x v) (hi : ∀ i t, x = .int i -> v = .int i t -> g) (hs : ∀ y t, x = .str y -> v = .str y t -> g)
  (ht : ∀ l k a vs m, n = k + 1 -> x = .tup l -> v = .ref a -> okKs k l = true -> h.get? a = some (aW4 vs.toArray m) -> RepPs C h ρ0 l vs -> g) : g := by
 cases x with
 | int i => exact ex1 r fun t e => hi i t rfl e
 | str y => exact ex1 r fun t e => hs y t rfl e
 | tup l =>
  cases n with
  | zero => exact nomatch p
  | succ k => exact ex3 r fun a vs m r => ht l k a vs m rfl rfl r.1 p r.2.1 r.2.2.2.2
 | _ => cases n <;> exact nomatch p
theorem cF4 (n : Nat) : ∀ {x : PV} {v : Value} {A : Around} {E : Value -> Shared -> Prop} {s : Shared} {Q : Int -> Shared -> Prop}, okK n x = true -> RepP C s.heap ρ0 x v -> A.units + n < cLine -> Q (keyHash C x) { s with toks := s.toks + aJ5 x } ->
  wpAny (model C.prog C.w) A (PySem.pyHash v) Q E s := by
 induction n with
 | zero =>
  intro x v A E s Q p r hu q
  exact aI6 p r (fun i t ex ev => by subst ex ev; exact wpAny_pyHash_int q) (fun i t ex ev => by subst ex ev; exact wpAny_pyHash_str q) (fun l k a vs m e => nomatch e)
 | succ n ih =>
  intro x v A E s Q p r hu q
  refine aI6 p r (fun i t ex ev => by subst ex ev; exact wpAny_pyHash_int q) (fun i t ex ev => by subst ex ev; exact wpAny_pyHash_str q) (fun l k a vs m e ex ev hl ho r' => ?_)
  cases e; subst ex ev
  refine pyHash_slot (T := "tuple") ⟨_, ho, rfl⟩ PySem.F.slot_tuple_hash PySem.F.entry_tuple_hash (PySem.F.args_tuple_hash_1 _) (beq_builtin_none _) (.inr (zzG (nA _ _) hu)) ?_
  show wpAny _ _ (Builtin.Tuple.tupleItemsOf (.ref a) >>= _) _ _ s
  refine wpAny_bind (wpAny_tupleItemsOf ho rfl (wpAny_bind ?_))
  rw [<- Array.forIn_toList]
  refine wpAny_forIn_list _
   (fun rest (b : Array Int) s' => ∃ done left, l = done ++ left /\ okKs n left = true /\ RepPs C s.heap ρ0 left rest /\ b.toList = aF C done /\ s' = { s with toks := s.toks + aC8 done })
   _ (fun x rest b s' i => ex2 i fun done left i => ?_) (fun b s' i => ex2 i fun done left i => ?_) _ _ ⟨[], l, rfl, hl, r', rfl, rfl⟩
  ·obtain ⟨rfl, hl, r, hb, rfl⟩ := i
   cases left with
   | nil => exact nomatch (show x :: rest = [] from r)
   | cons k ks =>
    refine aA hl fun h1 h2 => ex2 r fun v r' r => ?_
    cases r.1
    refine wpAny_bind (ih (s := { s with toks := s.toks + aC8 done }) h1 r.2.1 (show A.units + 1 + n < cLine from Nat.add_right_comm _ 1 n ▸ hu) ?_)
    refine wpAny_pure ⟨done ++ [k], ks, List.append_cons .., h2, r.2.2, ?_, ?_⟩
    ·rw [Array.toList_push, hb, aM2]; rfl
    ·exact congrArg (fun t => ({ s with toks := t } : Shared)) ((Nat.add_assoc s.toks (aC8 done) (aJ5 k)).trans (congrArg (s.toks + ·) (aM3 done [k]).symm))
  ·obtain ⟨rfl, hl, r, hb, rfl⟩ := i
   cases left with
   | cons => exact ex2 r fun v r' r => nomatch r.1
   | nil =>
    rw [List.append_nil] at q
    show wpAny _ _ (retInt (Builtin.Tuple.tupleHashOf b.toList)) _ _ _
    rw [hb]
    exact wpAny_bind (wpAny_mkInt (wpAny_pure ⟨_, _, rfl, q⟩))
theorem bS6 (n : Nat) : ∀ {m : Nat} {x : PV} {v : Value} {A : Around} {E : Value -> Shared -> Prop} {s : Shared} {Q : Bool -> Shared -> Prop}, okK n x = true -> RepP C s.heap ρ0 x v -> n <= m -> Q true s ->
  wpAny (model C.prog C.w) A (eqIsQuiet m v) Q E s := by
 induction n with
 | zero =>
  intro m x v A E s Q p r hm q
  exact aI6 p r (fun i t ex ev => by subst ev; exact @eqIsQuiet_byValue m (.int i t) rfl ▸ wpAny_pure q) (fun i t ex ev => by subst ev; exact @eqIsQuiet_byValue m (.str i t) rfl ▸ wpAny_pure q) (fun l k a vs m e => nomatch e)
 | succ n ih =>
  intro m x v A E s Q p r hm q
  refine aI6 p r (fun i t ex ev => by subst ev; exact @eqIsQuiet_byValue m (.int i t) rfl ▸ wpAny_pure q) (fun i t ex ev => by subst ev; exact @eqIsQuiet_byValue m (.str i t) rfl ▸ wpAny_pure q) (fun l k a vs c e ex ev hl ho r' => ?_)
  cases e; subst ex ev
  cases m with
  | zero => exact nomatch hm
  | succ m =>
   have hT : s.TypeIs (.ref a) "tuple" := ⟨_, ho, rfl⟩
   unfold eqIsQuiet
   refine wpAny_bind (wpAny_specialOf hT PySem.F.slot_tuple_eq.lookup ?_)
   show wpAny _ _ (isInstance (.ref a) (.type "tuple") >>= _) _ _ s
   refine wpAny_bind (wpAny_isInstance hT isSubtype_tuple_tuple ?_)
   rw [if_neg (show ¬ ((!true) = true) from Bool.false_ne_true)]
   refine wpAny_bind (wpAny_seqItems ho rfl (wpAny_bind ?_))
   show wpAny _ _ (forIn vs.toArray _ _) _ _ s
   rw [<- Array.forIn_toList]
   refine wpAny_forIn_list _ (fun rest r s' => r.1 = none /\ s' = s /\ ∃ left, okKs n left = true /\ RepPs C s.heap ρ0 left rest) _ (fun v rest r s' i => ex1 i.2.2 fun left j => ?_) (fun r s' i => ?_) _ _ ⟨rfl, rfl, l, hl, r'⟩
   ·obtain ⟨_, rfl, _⟩ := i
    cases left with
    | nil => exact nomatch (show v :: rest = [] from j.2)
    | cons k ks =>
     refine aA j.1 fun h1 h2 => ex2 j.2 fun v r' r => ?_
     cases r.1
     exact wpAny_bind (ih h1 r.2.1 (zzK hm) (wpAny_pure ⟨rfl, rfl, ks, h2, r.2.2⟩))
   ·obtain ⟨r1, r2⟩ := r
    obtain ⟨rfl, rfl, _⟩ := i
    exact wpAny_pure q
noncomputable def aE4 (C : Cx) : HeapKind C.prog C.w PV where
 is h k a := okK 4 k = true /\ RepP C h ρ0 k (.ref a)
 hash := keyHash C
 draws := aJ5
 room := fun A => A.units + 16 < cLine
 inj := fun p q => cX0 p.1 q.1 p.2 q.2
 keeps := fun p ho hd hs => ⟨p.1, RepP.mono (fun b o e _ z => (hs.2 b fun q => by
  subst q
  rw [ho] at e; cases e
  rcases z with z | z
  ·exact nomatch z
  ·exact nomatch z.symm.trans (show aD0 _ = false by unfold aD0; rw [hd])).trans e) Less.refl _ _ p.2⟩
 pyHash := fun hu p q => cF4 4 p.1 p.2 (by lia) q
 eqBool := fun {A E s x y a b Q} hu p p' q => by
  refine ex1 (aF3 _ 4 _ (aG5 _ 4 p.1) p.2) fun as x1 => ex1 (aF3 _ 4 _ (aG5 _ 4 p'.1) p'.2) fun bs x2 => ?_
  have y1 := aO3 _ 4 (aG5 _ 4 p.1)
  have y2 := aO3 _ 4 (aG5 _ 4 p'.1)
  refine SeqAt.eqBoolOverData _ _ _ _ _ _ _ _ _ _ _ _ x1 x2 y1.1 y2.1 (by lia) ?_
  rw [bF0 x 4 4 y (aG5 _ 4 p.1) (aG5 _ 4 p'.1), aZ0 p.1 p'.1]; exact q
 quiet := fun p q => bS6 4 (m := 8) p.1 p.2 (by decide) q
end
noncomputable def Ents (C : Cx) (h : Heap) (ρ : Rho) : List (Str × MV) -> List DictEntry -> Prop
 | [], es => es = []
 | x :: l, es => ∃ e r, es = e :: r /\ (∃ t, e.key = .str x.1 t) /\ Rep C h ρ x.2 e.val /\ Ents C h ρ l r
noncomputable def PairK (C : Cx) (h : Heap) (ρ : Rho) : List (PV × MV) -> List (PV × Value) -> Prop
 | [], kvs => kvs = []
 | x :: es, kvs => ∃ v r, kvs = (x.1, v) :: r /\ Rep C h ρ x.2 v /\ PairK C h ρ es r
noncomputable def PairT (C : Cx) (h : Heap) (ρ : Rho) : List (PV × MV) -> List (PV × Addr × Value) -> Prop
 | [], xs => xs = []
 | x :: es, xs => ∃ a v r, xs = (x.1, a, v) :: r /\ RepP C h ρ x.1 (.ref a) /\ Rep C h ρ x.2 v /\ PairT C h ρ es r
structure DictOk (C : Cx) (h : Heap) (ρ : Rho) (a : Addr) (es : List (PV × MV)) : Prop where
 is : ∃ o, h.get? a = some o /\ o.cls = .type "dict" /\ o.dict = none /\ ∃ en n, o.data = .dict en n
 kk : ∀ n, n < 2 -> allK n es = true -> ∃ kvs, h.DictOf (aC3 C n) a kvs /\ PairK C h ρ es kvs
 tk : allK 2 es = true -> ∃ xs, h.DictOfH (aE4 C) a xs /\ PairT C h ρ es xs
noncomputable def CellOk (C : Cx) (h : Heap) (ρ : Rho) (a : Addr) (c : Nat) : MO -> Prop
 | .pl l => ∃ vs n, h.get? a = some (listOf vs.toArray n) /\ RepPs C h ρ l vs /\ l.length <= c
 | .list l => ∃ vs n, h.get? a = some (listOf vs.toArray n) /\ Reps C h ρ l vs /\ l.length <= c
 | .attrs l => ∃ es n, h.get? a = some (dictOf es n) /\ Ents C h ρ l es
 | .dict es => DictOk C h ρ a es /\ es.length <= c
structure Sh (C : Cx) (ρ : Rho) (m : Mem) (c : Nat) (h : Heap) : Prop where
 len : ρ.a.length = m.length
 nodup : ρ.a.Nodup
 fresh : ∀ a ∈ ρ.a, C.h₀.get? a = none
 froz : ∀ a ∈ ρ.f, C.h₀.get? a = none /\ a ∉ ρ.a /\ ∃ o, h.get? a = some o
 keep0 : ∀ b o, C.h₀.get? b = some o -> h.get? b = some o
 cell : ∀ (i : Nat) (a : Addr) (o : MO), ρ.a[i]? = some a -> m[i]? = some o -> CellOk C h ρ a c o
section
variable {C : Cx} {h h' : Heap} {ρ ρ' : Rho} {m m' : Mem} {c c' : Nat}
theorem Ents.mono (k : aF1 ρ h h') (g : Grow ρ ρ' h) : ∀ {l es}, Ents C h ρ l es -> Ents C h' ρ' l es := fun {l} => by
 induction l with
 | nil => exact fun r => r
 | cons x l ih => exact fun r => ex2 r fun e r' r => ⟨e, r', r.1, r.2.1, Rep.mono k g _ _ r.2.2.1, ih r.2.2.2⟩
theorem PairK.mono (k : aF1 ρ h h') (g : Grow ρ ρ' h) : ∀ {l es}, PairK C h ρ l es -> PairK C h' ρ' l es := fun {l} => by
 induction l with
 | nil => exact fun r => r
 | cons x l ih => exact fun r => ex2 r fun e r' r => ⟨e, r', r.1, Rep.mono k g _ _ r.2.1, ih r.2.2⟩
theorem PairT.mono (k : aF1 ρ h h') (g : Grow ρ ρ' h) : ∀ {l es}, PairT C h ρ l es -> PairT C h' ρ' l es := fun {l} => by
 induction l with
 | nil => exact fun r => r
 | cons x l ih => exact fun r => ex3 r fun a e r' r => ⟨a, e, r', r.1, RepP.mono k g.toLess _ _ r.2.1, Rep.mono k g _ _ r.2.2.1, ih r.2.2.2⟩
theorem PairT.is {es : List (PV × MV)} : ∀ {xs}, allK 2 es = true -> PairT C h ρ es xs -> ∀ y ∈ xs, (aE4 C).is h y.1 y.2.1 := by
 induction es with
 | nil => exact fun _ p y hy => nomatch (show _ = [] from p) ▸ hy
 | cons x es ih => exact fun k p y hy => aA k fun k1 k2 => ex3 p fun a v r p => (List.mem_cons.mp (p.1 ▸ hy)).elim (fun q => by subst q; exact ⟨(aA k1 fun _ k => k), bV3 _ 4 _ (aA k1 fun _ k => k) p.2.1⟩) fun hy => ih k2 p.2.2.2 y hy
theorem bV1 {n : Nat} {a : Addr} {kvs : List (PV × Value)} (e : h'.get? a = h.get? a) (x : h.DictOf (aC3 C n) a kvs) : h'.DictOf (aC3 C n) a kvs := ex3 x fun o es ep x => ⟨o, es, ep, e.trans x.1, x.2⟩
theorem cB2 {a : Addr} {es : List (PV × MV)} {xs : List (PV × Addr × Value)} (e : h'.get? a = h.get? a) (x : h.DictOfH (aE4 C) a xs) (k : allK 2 es = true) (p : PairT C h' ρ' es xs) : h'.DictOfH (aE4 C) a xs :=
 ex3 x fun o es ep x => ⟨o, es, ep, e.trans x.1, x.2.1, x.2.2.1, x.2.2.2.1, p.is k, x.2.2.2.2.2⟩
theorem DictOk.mono (k : aF1 ρ h h') (g : Grow ρ ρ' h) {a : Addr} (e : h'.get? a = h.get? a) {es : List (PV × MV)} (D : DictOk C h ρ a es) : DictOk C h' ρ' a es :=
 ⟨e ▸ D.is, fun n hn q => ex1 (D.kk n hn q) fun kvs r => ⟨kvs, bV1 e r.1, r.2.mono k g⟩, fun q => ex1 (D.tk q) fun xs r => ⟨xs, cB2 e r.1 q (r.2.mono k g), r.2.mono k g⟩⟩
theorem CellOk.mono (k : aF1 ρ h h') (g : Grow ρ ρ' h) (hc : c <= c') {a : Addr} (e : h'.get? a = h.get? a) : ∀ {o : MO}, CellOk C h ρ a c o -> CellOk C h' ρ' a c' o := fun {o} => by
 cases o with
 | pl l => exact fun r => ex2 r fun vs n r => ⟨vs, n, e.trans r.1, r.2.1.mono k g.toLess, nT r.2.2 hc⟩
 | list l => exact fun r => ex2 r fun vs n r => ⟨vs, n, e.trans r.1, r.2.1.mono k g, nT r.2.2 hc⟩
 | attrs l => exact fun r => ex2 r fun vs n r => ⟨vs, n, e.trans r.1, r.2.mono k g⟩
 | dict l => exact fun r => ⟨r.1.mono k g e, nT r.2 hc⟩
theorem CellOk.some {a : Addr} : ∀ {o : MO}, CellOk C h ρ a c o -> ∃ x, h.get? a = some x := fun {o} => by
 cases o with
 | dict l => exact fun r => ex1 r.1.is fun o r => ⟨o, r.1⟩
 | _ => exact fun r => ex2 r fun _ _ r => ⟨_, r.1⟩
theorem Sh.there (H : Sh C ρ m c h) {a : Addr} (q : a ∈ ρ.a) : ∃ o, h.get? a = some o :=
 ex1 (zzM.mp q) fun i e => (H.cell i a _ e (zzT (H.len ▸ (zzA.mp e).1))).some
theorem Sh.lt (H : Sh C ρ m c h) {i : Nat} {a : Addr} (e : ρ.a[i]? = some a) : i < m.length := H.len ▸ (zzA.mp e).1
theorem aB9 (H : Sh C ρ m c h) {a : Addr} (e : h.get? a = none) : a ∉ ρ.a := fun q => ex1 (H.there q) fun o x => nomatch x.symm.trans e
theorem Sh.new0 (H : Sh C ρ m c h) {a : Addr} (e : h.get? a = none) : C.h₀.get? a = none := by
 cases q : C.h₀.get? a with
 | none => rfl
 | some o => exact nomatch (H.keep0 _ _ q).symm.trans e
theorem Sh.kept (H : Sh C ρ m c h) (hc : c <= c') (k : aF1 ρ h h') (k0 : ∀ b o, C.h₀.get? b = some o -> h'.get? b = some o) (kc : ∀ a ∈ ρ.a, h'.get? a = h.get? a) (kf : ∀ a ∈ ρ.f, ∃ o, h'.get? a = some o) : Sh C ρ m c' h' :=
 ⟨H.len, H.nodup, H.fresh, fun a q => ⟨(H.froz a q).1, (H.froz a q).2.1, kf a q⟩, k0, fun i a o e1 e2 => (H.cell i a o e1 e2).mono k Grow.refl hc (kc a (zzL e1))⟩
theorem Sh.ext (H : Sh C ρ m c h) (hc : c <= c') (k : ∀ b o, h.get? b = some o -> h'.get? b = some o) : Sh C ρ m c' h' :=
 H.kept hc (Keep.all k).d (fun b o e => k b o (H.keep0 b o e)) (fun a q => ex1 (H.there q) fun o e => (k a o e).trans e.symm) fun a q => ex1 (H.froz a q).2.2 fun o e => ⟨o, k a o e⟩
theorem Sh.but (H : Sh C ρ m c h) {L : Addr} {o : Obj} (hL : h.get? L = some o) (hd : aD0 o = false) (n0 : C.h₀.get? L = none) (nl : L ∉ ρ.a) (nf : L ∉ ρ.f) (hs : ∀ b o, b ≠ L -> h.get? b = some o -> h'.get? b = some o) : aF1 ρ h h' /\ Sh C ρ m c h' := by
 have k : aF1 ρ h h' := fun b x e n z => hs b x (fun q => z.elim (fun z => nf (q ▸ z)) fun z => by subst q; rw [hL] at e; cases e; exact nomatch z.symm.trans hd) e
 exact ⟨k, H.kept (nR c) k (fun b x e => hs b x (aC7 e n0) (H.keep0 b x e)) (fun a q => ex1 (H.there q) fun o e => (hs a o (fun z => nl (z ▸ q)) e).trans e.symm) fun a q => ex1 (H.froz a q).2.2 fun o e => ⟨o, hs a o (fun z => nf (z ▸ q)) e⟩⟩
theorem aE {ρ : List Addr} (n : ρ.Nodup) {i j : Nat} {a : Addr} (e1 : ρ[i]? = some a) (e2 : ρ[j]? = some a) : i = j :=
 (List.getElem?_inj (zzA.mp e1).1 n).mp (e1.trans e2.symm)
theorem SameBut.keep {i : Nat} {a : Addr} (ea : ρ.a[i]? = some a) (hs : Heap.SameBut a h h') : Keep ρ h h' := fun b o e n => (hs.2 b fun q => n (q ▸ zzL ea)).trans e
theorem Sh.upd (H : Sh C ρ m c h) (hc : c <= c') {i : Nat} {a : Addr} {o' : MO} (ea : ρ.a[i]? = some a) (hs : Heap.SameBut a h h') (k : CellOk C h' ρ a c' o') : Sh C ρ (m.set i o') c' h' where
 len := H.len.trans List.length_set.symm
 nodup := H.nodup
 fresh := H.fresh
 froz b q := ⟨(H.froz b q).1, (H.froz b q).2.1, ex1 (H.froz b q).2.2 fun o e => ⟨o, (hs.2 b fun z => (H.froz b q).2.1 (z ▸ zzL ea)).trans e⟩⟩
 keep0 b o e := (hs.2 b (aC7 e (H.fresh a (zzL ea)))).trans (H.keep0 b o e)
 cell j b o e1 e2 := by
  by_cases q : i = j
  ·subst q
   cases ea.symm.trans e1
   cases (zze (H.lt ea)).symm.trans e2
   exact k
  ·exact (H.cell j b o e1 ((List.getElem?_set_ne q).symm.trans e2)).mono (SameBut.keep ea hs).d Grow.refl hc (hs.2 b fun z => q (aE H.nodup (z ▸ ea) (z ▸ e1)))
theorem aF6 {α : Type} {l : List α} {x : α} {n : Nat} (e : l.length = n) : (l ++ [x])[n]? = some x := e ▸ zzO
theorem aR4 {α : Type} {l : List α} {x y : α} {i : Nat} (e : (l ++ [x])[i]? = some y) {g : Prop} (f : l[i]? = some y -> g) (k : i = l.length -> x = y -> g) : g := by
 by_cases q : i < l.length
 ·exact f ((zzH q).symm.trans e)
 ·by_cases q2 : i = l.length
  ·subst q2; exact k rfl (zzC (zzO.symm.trans e))
  ·exact nomatch (List.getElem?_eq_none (by rw [zzB, List.length_singleton]; lia)).symm.trans e
theorem Sh.new (H : Sh C ρ m c h) (hc : c <= c') {a : Addr} {o : MO} (e : h.get? a = none) (k : ∀ b o, h.get? b = some o -> h'.get? b = some o) (x : CellOk C h' (ρ.new a) a c' o) : Sh C (ρ.new a) (m ++ [o]) c' h' where
 len := by show (ρ.a ++ [a]).length = _; rw [zzB, zzB, H.len]; rfl
 nodup := List.nodup_append.mpr ⟨H.nodup, List.pairwise_singleton _ _, fun b hb d hd q => aB9 H e (zzJ.mp hd ▸ q ▸ hb)⟩
 fresh b hb := (zzP.mp hb).elim (H.fresh b) fun q => zzJ.mp q ▸ H.new0 e
 froz b q := ex1 (H.froz b q).2.2 fun o eb => ⟨(H.froz b q).1, fun z => (zzP.mp z).elim (H.froz b q).2.1 fun z => aC7 eb e (zzJ.mp z), o, k b o eb⟩
 keep0 b o q := k _ _ (H.keep0 b o q)
 cell i b y e1 e2 := aR4 e1 (fun e1 => aR4 e2 (fun e2 => have z := H.cell i b y e1 e2; z.mono (Keep.all k).d (Grow.one e) hc (ex1 z.some fun o e => (k b o e).trans e.symm)) fun q => absurd (H.lt e1) (q ▸ Nat.lt_irrefl _))
  fun q qb => aR4 e2 (fun e2 => absurd (H.len ▸ (zzA.mp e2).1) (q ▸ Nat.lt_irrefl _)) fun _ qo => qb ▸ qo ▸ x
structure Nx (C : Cx) (ρ : Rho) (s : Shared) (m' : Mem) (c' : Nat) (ρ' : Rho) (s' : Shared) : Prop where
 sh : Sh C ρ' m' c' s'.heap
 keep : Keep ρ s.heap s'.heap
 grow : Grow ρ ρ' s.heap
 gens : s'.gens = s.gens
 drawn : s'.drawn = s.drawn
 os : s'.os = s.os
variable {s s' s'' : Shared} {ρ'' : Rho} {m'' : Mem} {c'' : Nat}
theorem Nx.refl (H : Sh C ρ m c s.heap) : Nx C ρ s m c ρ s := ⟨H, fun _ _ e _ => e, Grow.refl, rfl, rfl, rfl⟩
theorem Nx.all (n : Nx C ρ s m' c' ρ' s') (a : Addr) (o : Obj) (e : s.heap.get? a = some o) : ∃ o', s'.heap.get? a = some o' := by
 by_cases q : a ∈ ρ.a
 ·exact ex1 (zzM.mp q) fun i z => n.sh.there (zzL (n.grow.at_ z))
 ·exact ⟨o, n.keep a o e q⟩
theorem Nx.trans (a : Nx C ρ s m' c' ρ' s') (b : Nx C ρ' s' m'' c'' ρ'' s'') : Nx C ρ s m'' c'' ρ'' s'' :=
 ⟨b.sh, a.keep.trans a.grow.toLess b.keep, Grow.trans a.keep a.all a.grow b.grow, b.gens.trans a.gens, b.drawn.trans a.drawn, b.os.trans a.os⟩
theorem Nx.ext (H : Sh C ρ m c s.heap) (t : Nat) (hc : c <= c') {h' : Heap} (k : ∀ b o, s.heap.get? b = some o -> h'.get? b = some o) : Nx C ρ s m c' ρ { s with heap := h', toks := t } :=
 ⟨H.ext hc k, Keep.all k, Grow.refl, rfl, rfl, rfl⟩
theorem Nx.toks (H : Sh C ρ m c s.heap) (t : Nat) : Nx C ρ s m c ρ { s with toks := t } := Nx.ext H t (nR c) fun _ _ e => e
theorem Nx.upd (H : Sh C ρ m c s.heap) (t : Nat) (hc : c <= c') {h' : Heap} {i : Nat} {a : Addr} {o' : MO} (ea : ρ.a[i]? = some a) (hs : Heap.SameBut a s.heap h') (x : CellOk C h' ρ a c' o') : Nx C ρ s (m.set i o') c' ρ { s with heap := h', toks := t } :=
 ⟨H.upd hc ea hs x, SameBut.keep ea hs, Grow.refl, rfl, rfl, rfl⟩
theorem Nx.new (H : Sh C ρ m c s.heap) (t : Nat) (hc : c <= c') {h' : Heap} {a : Addr} {o : MO} (e : s.heap.get? a = none) (k : ∀ b o, s.heap.get? b = some o -> h'.get? b = some o) (x : CellOk C h' (ρ.new a) a c' o) :
  Nx C ρ s (m ++ [o]) c' (ρ.new a) { s with heap := h', toks := t } := ⟨H.new hc e k x, Keep.all k, Grow.one e, rfl, rfl, rfl⟩
theorem Nx.rep (n : Nx C ρ s m' c' ρ' s') {x : MV} {v : Value} (r : Rep C s.heap ρ x v) : Rep C s'.heap ρ' x v := Rep.mono n.keep.d n.grow x v r
theorem Nx.reps (n : Nx C ρ s m' c' ρ' s') {x : List MV} {v : List Value} (r : Reps C s.heap ρ x v) : Reps C s'.heap ρ' x v := Reps.mono n.keep.d n.grow x v r
end
end
section
open PySem PySem.W PyProof.Rows PyProof.V
open PySem Builtin
open scoped Classical
noncomputable def Bd {α : Type} (K : Kt α) : Prop := ∀ v m c, K v m c -> c <= bigN
section
variable {C : Cx} {h : Heap} {ρ : Rho} {m : Mem} {c : Nat} {s : Shared} {A : Around} {E : Value -> Shared -> Prop} {K : Kt MV} {Q : Value -> Shared -> Prop}
noncomputable abbrev Out (C : Cx) (ρ : Rho) (s : Shared) (K : Kt MV) (Q : Value -> Shared -> Prop) : Prop :=
 ∀ v v' ρ' m' c' s', K v m' c' -> Nx C ρ s m' c' ρ' s' -> Rep C s'.heap ρ' v v' -> Q v' s'
theorem aE2 {v : MV} {v' : Value} (H : Sh C ρ m c s.heap) (k : Out C ρ s K Q) (e : K v m c) (r : Rep C s.heap ρ v v') (t : Nat) : Q v' { s with toks := t } := k _ _ _ _ _ _ e (Nx.toks H t) r
theorem aO9 {i : Int} {t : Tok} (H : Sh C ρ m c s.heap) (k : Out C ρ s K Q) (e : K (i_ i) m c) (n : Nat) : Q (.int i t) { s with toks := n } := aE2 H k e ⟨t, rfl⟩ n
theorem aM1 {b : Bool} (H : Sh C ρ m c s.heap) (k : Out C ρ s K Q) (e : K (b_ b) m c) : Q (.bool b) s := k _ _ _ _ _ _ e (Nx.refl H) rfl
theorem dG5 (H : Sh C ρ m c s.heap) (k : Out C ρ s K Q) (e : K n_ m c) : Q .none s := k _ _ _ _ _ _ e (Nx.refl H) rfl
theorem aA4 (h : Heap) (o : Obj) : ∀ b x, h.get? b = some x -> (h.push o).get? b = some x := fun b x e => Heap.get?_push_of_some _ e
theorem cH8 {l : List PV} {vs : List Value} {c' : Nat} (H : Sh C ρ m c s.heap) (hc : c <= c') (r : RepPs C s.heap ρ l vs) (hl : l.length <= c') (k : Out C ρ s K Q) (e : K (.obj m.length) (m ++ [.pl l]) c') : Q (.ref s.heap.objs.size) { s with heap := s.heap.push (listOf vs.toArray 0) } :=
 k _ _ _ _ _ _ e (Nx.new (o := .pl l) H s.toks hc (aB2 _) (aA4 _ _) ⟨vs, 0, Heap.get?_push_size _ rfl, r.mono (Keep.all (aA4 _ _)).d (Grow.one (aB2 _)).toLess, hl⟩) ⟨_, aF6 H.len, rfl⟩
theorem bP9 {l : List PV} {vs : List Value} (H : Sh C ρ m c h) (r : RepPs C h ρ l vs) (hl : l.length <= bigN) : RepP C (h.push (aW4 vs.toArray 0)) ρ (.tup l) (.ref h.objs.size) :=
 ⟨_, vs, 0, rfl, Heap.get?_push_size _ rfl, aB9 H (aB2 _), hl, r.mono (Keep.all (aA4 _ _)).d Less.refl⟩
theorem bU5 {l : List PV} {vs : List Value} (H : Sh C ρ m c s.heap) (r : RepPs C s.heap ρ l vs) (hl : l.length <= bigN) (k : Out C ρ s K Q) (e : K (.p (.tup l)) m c) : Q (.ref s.heap.objs.size) { s with heap := s.heap.push (aW4 vs.toArray 0) } :=
 k _ _ _ _ _ _ e (Nx.ext H s.toks (nR c) (aA4 _ _)) (bP9 H r hl)
theorem RepPs.length : ∀ {l : List PV} {vs : List Value}, RepPs C h ρ l vs -> vs.length = l.length := fun {l} => by
 induction l with
 | nil => exact fun r => congrArg _ (show _ = [] from r)
 | cons x l ih => exact fun r => ex2 r fun v r' r => r.1 ▸ congrArg (· + 1) (ih r.2.2)
theorem RepPs.append {r : List PV} {us : List Value} (b : RepPs C h ρ r us) : ∀ {l : List PV} {vs : List Value}, RepPs C h ρ l vs -> RepPs C h ρ (l ++ r) (vs ++ us) := fun {l} => by
 induction l with
 | nil => exact fun {vs} a => (show vs = [] from a) ▸ b
 | cons x l ih => exact fun a => ex2 a fun v r' a => ⟨v, r' ++ us, congrArg (· ++ us) a.1, a.2.1, ih a.2.2⟩
theorem aL0 {l : List PV} {vs : List Value} (r : RepPs C h ρ l vs) (hl : l.length <= bigN) : vs.toArray.size <= sizeLine := by
 rw [zzV, r.length]; exact nT hl (by decide)
theorem aI4 {i : Nat} {l : List PV} {v : Value} {g : Prop} (H : Sh C ρ m c h) (r : Rep C h ρ (.obj i) v) (e : m[i]? = some (.pl l)) (k : ∀ a vs n, ρ.a[i]? = some a -> v = .ref a -> h.get? a = some (listOf vs.toArray n) -> RepPs C h ρ l vs -> l.length <= c -> g) : g :=
 ex1 r fun a r => ex2 (H.cell i a _ r.1 e) fun vs n x => k a vs n r.1 r.2 x.1 x.2.1 x.2.2
theorem aB6 {a : Addr} {vs : List Value} {n : Nat} (x : h.get? a = some (listOf vs.toArray n)) : h.IsList a vs.toArray := ⟨_, x, rfl, n, rfl⟩
theorem aJ2 {a b : MV} {a' b' : Value} {k : Int -> Int -> Prop} {g : Prop} (ra : Rep C h ρ a a') (rb : Rep C h ρ b b') (e : int2 a b k) (f : ∀ i j t u, a' = .int i t -> b' = .int j u -> k i j -> g) : g :=
 aN5 e fun i j ha hb e => by subst ha hb; exact ex1 ra fun t ea => ex1 rb fun u eb => f i j t u ea eb e
theorem aZ1 {a b : Int} (h : bA3 a b = true) : IntMulOk a b := by
 refine aA h fun h1 _ => ?_
 have h1 := of_decide_eq_true h1
 have : ¬ Builtin.Int.intBits a > shortFactorBits := by
  unfold Builtin.Int.intBits shortFactorBits
  by_cases q : a.natAbs = 0
  ·rw [if_pos (by rw [Int.natAbs_eq_zero.mp q]; rfl)]; decide
  ·rw [if_neg (by simpa using q)]
   have := (Nat.log2_lt (n := a.natAbs) (k := 31) q).mpr h1
   lia
 unfold IntMulOk
 rw [decide_eq_false this]
 exact Bool.false_ne_true
theorem cG2 : fillsNumberSlot (.type "tuple") "mul" = pure false :=
 PySem.fillsNumberSlot_seq (id := "tuple.__mul__") (r := some (.builtin "tuple.__rmul__")) PySem.F.slot_tuple_mul.lookup (by decide +kernel) PySem.F.slot_tuple_rmul.lookup (by decide +kernel)
theorem bH7 : seqRepeat? (.type "tuple") = pure (some (.builtin "tuple.__mul__")) := by
 unfold seqRepeat?
 rw [PySem.seqSlot_of (T := "tuple") (name := "__mul__") (id := "tuple.__mul__") PySem.F.slot_tuple_mul.lookup (by decide +kernel), PySem.seqSlot_of (T := "tuple") (name := "__rmul__") (id := "tuple.__rmul__") PySem.F.slot_tuple_rmul.lookup (by decide +kernel)]
 rfl
theorem aV1 (a : Int) (t : Tok) (l : Addr) (items : Array Value) (n : Nat) :
  Meets (Builtin.«int.__rmul__» ⟨[.int a t, .ref l], []⟩) (fun _ R s => s.heap.get? l = some { cls := .type "tuple", dict := none, data := .seq items n, slots := #[] } /\ R (.ok (.ret Value.notImplemented)) s) :=
 .of_wp fun prog w A R s h => by obtain ⟨hp, g, d, tk, os⟩ := s; obtain ⟨hl, h⟩ := h; wp_walk; exact ⟨_, rfl, h⟩
theorem bZ2 (l : Addr) (x : Value) (n : Nat) (u : Tok) :
  Meets (Builtin.«tuple.__mul__» ⟨[.ref l, .int 0 u], []⟩) (fun _ R s => s.heap.get? l = some { cls := .type "tuple", dict := none, data := .seq #[x] n, slots := #[] } /\ R (.ok (.ret (Value.ref s.heap.objs.size))) { s with heap := s.heap.push { cls := Value.type "tuple", data := Data.seq #[] }, toks := s.toks }) :=
 .of_wp fun prog w A R s h => by
  obtain ⟨hp, g, d, tk, os⟩ := s; obtain ⟨hl, h⟩ := h
  wp_walk
  exact ⟨_, rfl, h⟩
theorem dC9 {a b : MV} {a' b' : Value} (H : Sh C ρ m c s.heap) (ra : Rep C s.heap ρ a a') (rb : Rep C s.heap ρ b b') (e0 : add a b K m c) (hK : Bd K) (k : Out C ρ s K Q) : wpAny (model C.prog C.w) A (PySem.binaryOp .Add a' b') Q E s := by
 cases a with
 | p x =>
  refine aE1 e0 fun i hi e => aA5 e fun y hy e => aE1 e fun j hj e => ?_
  subst hi hy hj
  exact ex1 ra fun t ea => ex1 rb fun u eb => by subst ea eb; exact add_int (aO9 H k e _)
 | obj i =>
  refine aQ4 e0 fun j hj e => aC9 e fun l hl e => aC9 e fun r hr e => ?_
  subst hj
  refine aI4 H ra hl fun x vs n ex ea hx rx lx => aI4 H rb hr fun y ws n' ey eb hy ry ly => ?_
  subst ea eb
  have hb := hK _ _ _ e
  have hz : (l ++ r).length <= c + l.length := by rw [zzB]; lia
  refine concat_meets ⟨_, hx, rfl⟩ ⟨_, hy, rfl⟩ noFill_list_add seq_list_add PySem.F.slot_list_add PySem.F.entry_list_add (PySem.F.args_list_add_2 _ _) (list_addW x y vs.toArray ws.toArray n n' none none #[] #[] ?_) ⟨hx, hy, ?_⟩
  ·rw [<- Array.size_append, List.append_toArray]; exact aL0 (ry.append rx) (nT hz hb)
  ·exact List.append_toArray vs ws ▸ cH8 H (nA _ _) (ry.append rx) hz k e
 | _ => exact e0.elim
theorem dI9 {a b : MV} {a' b' : Value} (H : Sh C ρ m c s.heap) (ra : Rep C s.heap ρ a a') (rb : Rep C s.heap ρ b b') (e : mul a b K m c) (k : Out C ρ s K Q) : wpAny (model C.prog C.w) A (PySem.binaryOp .Mult a' b') Q E s := by
 refine aA5 e fun x hx e => aA5 e fun y hy e => aE1 e fun j hj e => ?_
 subst hx hy hj
 refine ex1 rb fun u eb => ?_
 subst eb
 cases x with
 | int i => exact ex1 ra fun t ea => by subst ea; exact mul_int (aO9 H k (aI9 e).2 _) (aZ1 (aI9 e).1)
 | tup l =>
  cases l with
  | nil => exact e.elim
  | cons y l =>
   cases l with
   | cons => exact e.elim
   | nil =>
    refine aA0 e fun hj e => ex3 ra fun x vs n r => ?_
    obtain ⟨rfl, hx, _, _, r⟩ := r
    obtain rfl := of_decide_eq_true hj
    obtain ⟨v, _, rfl, _, r⟩ := r
    obtain rfl : _ = [] := r
    exact wpAny_binaryOp_repeat_ref (T := "tuple") (U := "int") (by decide) ⟨_, hx, rfl⟩ (fun s' => typeIs_int s' 0 u) cG2 PySem.F.fills_int_mul PySem.F.slot_int_rmul bH7 PySem.F.slot_int_index.lookup
     (call_meets PySem.F.slot_int_rmul (typeIs_int s 0 u) PySem.F.entry_int_rmul (PySem.F.args_int_rmul_2 _ _) (aV1 0 u x #[v] n) ⟨hx, rfl, ⟨_, hx, rfl⟩, call_meets PySem.F.slot_tuple_mul ⟨_, hx, rfl⟩ PySem.F.entry_tuple_mul (PySem.F.args_tuple_mul_2 _ _) (bZ2 x v n u)
      ⟨hx, bU5 (l := []) (vs := []) H rfl (zzN _) k e⟩⟩)
 | _ => exact e.elim
theorem dM3 {op : Operator} {a b : MV} {a' b' : Value} (H : Sh C ρ m c s.heap) (ra : Rep C s.heap ρ a a') (rb : Rep C s.heap ρ b b') (e : aF0 op a b K m c) (hK : Bd K) (k : Out C ρ s K Q) : wpAny (model C.prog C.w) A (PySem.binaryOp op a' b') Q E s := by
 cases op with
 | Add => exact dC9 H ra rb e hK k
 | Sub => exact aJ2 ra rb e fun i j t u ea eb e => by subst ea eb; exact sub_int (aO9 H k e _)
 | Mult => exact dI9 H ra rb e k
 | Mod => exact aJ2 ra rb e fun i j t u ea eb e => by subst ea eb; exact mod_int' (by have := of_decide_eq_true (aI9 e).1; lia) (aO9 H k (aI9 e).2 _)
 | FloorDiv => exact aJ2 ra rb e fun i j t u ea eb e => by subst ea eb; obtain ⟨hj, e⟩ := aI9 e; cases of_decide_eq_true hj; exact floordiv_int (by decide) (aO9 H k e _)
 | _ => exact e.elim
theorem op_i {op : Operator} {a b : MV} {a' b' : Value} (H : Sh C ρ m c s.heap) (ra : Rep C s.heap ρ a a') (rb : Rep C s.heap ρ b b') (e : iop op a b K m c) (k : Out C ρ s K Q) : wpAny (model C.prog C.w) A (PySem.inplaceOp op a' b') Q E s := by
 cases op with
 | Add => exact aJ2 ra rb e fun i j t u ea eb e => by subst ea eb; exact iadd_int (aO9 H k e _)
 | Sub => exact aJ2 ra rb e fun i j t u ea eb e => by subst ea eb; exact isub_int (aO9 H k e _)
 | _ => exact e.elim
theorem eC4 {op : UnaryOp} {v : MV} {v' : Value} (H : Sh C ρ m c s.heap) (r : Rep C s.heap ρ v v') (e : unop op v K m c) (k : Out C ρ s K Q) : wpAny (model C.prog C.w) A (PySem.unaryOp op v') Q E s := by
 cases op with
 | USub => exact aA5 e fun x hx e => aE1 e fun i hi e => by subst hx hi; exact ex1 r fun t ea => by subst ea; exact PyProof.Rows.neg_int (aO9 H k e _)
 | _ => exact e.elim
end
end
section
open PySem PySem.W PyProof.Rows PyProof.V
open scoped Classical
section
variable {C : Cx} {h : Heap} {ρ : Rho} {k : PV} {n n' : Nat} {es : List (PV × MV)}
noncomputable def OptRep (C : Cx) (h : Heap) (ρ : Rho) : Option MV -> Option Value -> Prop
 | some x, some v => Rep C h ρ x v
 | none, none => True
 | _, _ => False
theorem OptRep.isSome {x : Option MV} {v : Option Value} (r : OptRep C h ρ x v) : v.isSome = x.isSome := by
 cases x <;> cases v <;> first | rfl | exact r.elim
theorem OptRep.get {x : MV} {o : Option MV} {v : Option Value} (r : OptRep C h ρ o v) (e : o = some x) : ∃ w, v = some w /\ Rep C h ρ x w := by
 subst e
 cases v with
 | none => exact r.elim
 | some w => exact ⟨w, rfl, r⟩
theorem OptRep.getD {d : MV} {w : Value} {o : Option MV} {v : Option Value} (r : OptRep C h ρ o v) (rd : Rep C h ρ d w) : Rep C h ρ (o.getD d) (v.getD w) := by
 cases o <;> cases v <;> first | exact rd | exact r.elim | exact r
theorem aD3 {x : PV} (q : cO6 n x = true) : okK 4 x = true /\ kindOf x = n := aA q fun a b => ⟨b, zzX a⟩
theorem aN6 {K β : Type} [DecidableEq K] {k : K} {v : β} {r : List (K × β)} : List.find? (fun x => decide (x.1 = k)) ((k, v) :: r) = some (k, v) := by rw [List.find?_cons, decide_eq_true rfl]
theorem aP3 {K β : Type} [DecidableEq K] {k k' : K} {v : β} {r : List (K × β)} (q : k' ≠ k) : List.find? (fun x => decide (x.1 = k)) ((k', v) :: r) = List.find? (fun x => decide (x.1 = k)) r := by rw [List.find?_cons, decide_eq_false q]
theorem aC5 {x : PV × MV} {r : List (PV × MV)} (p : okK 4 x.1 = true) (q : okK 4 k = true) : aA9 k (x :: r) = if x.1 = k then some x.2 else aA9 k r := by
 show (match peq x.1 k with | true => some x.2 | false => aA9 k r) = _
 rw [aZ0 p q]
 by_cases z : x.1 = k
 ·rw [if_pos z, decide_eq_true z]
 ·rw [if_neg z, decide_eq_false z]
theorem aI3 {x : PV × MV} {v : MV} {r : List (PV × MV)} (p : okK 4 x.1 = true) (q : okK 4 k = true) : dput k v (x :: r) = if x.1 = k then (x.1, v) :: r else x :: dput k v r := by
 show (match peq x.1 k with | true => (x.1, v) :: r | false => x :: dput k v r) = _
 rw [aZ0 p q]
 by_cases z : x.1 = k
 ·rw [if_pos z, decide_eq_true z]
 ·rw [if_neg z, decide_eq_false z]
theorem PairK.look (q : okK 4 k = true) : ∀ {kvs}, allK n es = true -> PairK C h ρ es kvs -> OptRep C h ρ (aA9 k es) (valueAt kvs k) := by
 induction es with
 | nil => exact fun _ p => (show _ = [] from p) ▸ trivial
 | cons x es ih =>
  exact fun a p => aA a fun a1 a2 => ex2 p fun v r p => by
   rw [aC5 (aD3 a1).1 q, p.1]; unfold valueAt
   by_cases z : x.1 = k
   ·rw [if_pos z, z, aN6]; exact p.2.1
   ·rw [if_neg z, aP3 z]; exact ih a2 p.2.2
theorem PairT.look (q : okK 4 k = true) : ∀ {xs}, allK n es = true -> PairT C h ρ es xs -> OptRep C h ρ (aA9 k es) ((atKey xs k).map (·.2)) := by
 induction es with
 | nil => exact fun _ p => (show _ = [] from p) ▸ trivial
 | cons x es ih =>
  exact fun a p => aA a fun a1 a2 => ex3 p fun b v r p => by
   rw [aC5 (aD3 a1).1 q, p.1]; unfold atKey
   by_cases z : x.1 = k
   ·rw [if_pos z, z, aN6]; exact p.2.2.1
   ·rw [if_neg z, aP3 z]; exact ih a2 p.2.2.2
theorem aD2 (q : okK 4 k = true) {v : MV} : allK (kindOf k) es = true -> allK (kindOf k) (dput k v es) = true := by
 induction es with
 | nil => exact fun _ => by show (Nat.beq _ _ && okK 4 k && true) = true; rw [q, Nat.beq_refl]; rfl
 | cons x es ih =>
  exact fun a => aA a fun a1 a2 => by
   rw [aI3 (aD3 a1).1 q]
   by_cases z : x.1 = k
   ·rw [if_pos z]; exact a
   ·rw [if_neg z]; exact Bool.and_eq_true_iff.mpr ⟨a1, ih a2⟩
theorem bN3 {v : MV} : dput k v es ≠ [] := by
 cases es with
 | nil => exact List.cons_ne_nil _ _
 | cons x es => show (match peq x.1 k with | true => (x.1, v) :: es | false => x :: dput k v es) ≠ []; cases peq x.1 k <;> exact List.cons_ne_nil _ _
theorem aQ (ne : es ≠ []) (a : allK n es = true) (b : allK n' es = true) : n = n' := by
 cases es with
 | nil => exact absurd rfl ne
 | cons x es => exact aA a fun a _ => aA b fun b _ => (aD3 a).2.symm.trans (aD3 b).2
theorem aZ7 {K : Type} [DecidableEq K] {k : K} {v u : Value} {r : List (K × Value)} (n : k ∉ r.map (·.1)) : stored ((k, u) :: r) k v = (k, v) :: r := by
 unfold stored
 rw [if_pos (by rw [List.any_cons, decide_eq_true rfl]; rfl), List.map_cons, if_pos rfl, show r.map (fun kv => if kv.1 = k then (kv.1, v) else kv) = r.map id from List.map_congr_left fun x hx => if_neg fun z => n (List.mem_map.mpr ⟨x, hx, z⟩), List.map_id]
theorem bA6 {K : Type} [DecidableEq K] {k i : K} {v u : Value} {r : List (K × Value)} (q : i ≠ k) : stored ((i, u) :: r) k v = (i, u) :: stored r k v := by
 unfold stored
 rw [List.any_cons, decide_eq_false q, Bool.false_or, List.map_cons, if_neg q]
 split <;> rfl
theorem PairK.put {x : MV} {v : Value} (q : okK 4 k = true) (rx : Rep C h ρ x v) : ∀ {kvs}, (kvs.map (·.1)).Nodup -> allK n es = true -> PairK C h ρ es kvs -> PairK C h ρ (dput k x es) (stored kvs k v) := by
 induction es with
 | nil => exact fun _ _ p => (show _ = [] from p) ▸ ⟨v, [], rfl, rx, rfl⟩
 | cons y es ih =>
  exact fun nd a p => aA a fun a1 a2 => ex2 p fun u r p => by
   rw [p.1, List.map_cons, List.nodup_cons] at nd
   rw [aI3 (aD3 a1).1 q, p.1]
   by_cases z : y.1 = k
   ·rw [if_pos z, z, aZ7 (z ▸ nd.1)]; exact ⟨v, r, rfl, rx, p.2.2⟩
   ·rw [if_neg z, bA6 z]; exact ⟨u, _, rfl, p.2.1, ih nd.2 a2 p.2.2⟩
theorem aV3 {a a' : Addr} {v u : Value} {r : List (PV × Addr × Value)} (n : k ∉ r.map (·.1)) : storedH ((k, a', u) :: r) k a v = (k, a', v) :: r := by
 rw [storedH_old (p := (a', u)) (by unfold atKey; rw [aN6]; rfl), List.map_cons, map_putAt_of_not_mem r k v n]
 unfold putAt; rw [if_pos rfl]
theorem aY2 {i : PV} {a a' : Addr} {v u : Value} {r : List (PV × Addr × Value)} (q : i ≠ k) : storedH ((i, a', u) :: r) k a v = (i, a', u) :: storedH r k a v := by
 unfold storedH
 rw [show atKey ((i, a', u) :: r) k = atKey r k by unfold atKey; rw [aP3 q]]
 split
 ·rw [List.map_cons]; unfold putAt; rw [if_neg q]
 ·rfl
theorem PairT.put {a : Addr} {x : MV} {v : Value} (q : okK 4 k = true) (rk : RepP C h ρ k (.ref a)) (rx : Rep C h ρ x v) : ∀ {xs}, (xs.map (·.1)).Nodup -> allK n es = true -> PairT C h ρ es xs -> PairT C h ρ (dput k x es) (storedH xs k a v) := by
 induction es with
 | nil => exact fun _ _ p => (show _ = [] from p) ▸ ⟨a, v, [], rfl, rk, rx, rfl⟩
 | cons y es ih =>
  exact fun nd b p => aA b fun b1 b2 => ex3 p fun a' u r p => by
   rw [p.1, List.map_cons, List.nodup_cons] at nd
   rw [aI3 (aD3 b1).1 q, p.1]
   by_cases z : y.1 = k
   ·rw [if_pos z, z, aV3 (z ▸ nd.1)]; exact ⟨a', v, r, rfl, z ▸ p.2.1, rx, p.2.2.2⟩
   ·rw [if_neg z, aY2 z]; exact ⟨a', u, _, rfl, p.2.1, p.2.2.1, ih nd.2 b2 p.2.2.2⟩
theorem bO {a : Addr} {kvs} (x : h.DictOf (aC3 C n) a kvs) : ∃ o, h.get? a = some o /\ o.cls = .type "dict" /\ o.dict = none /\ ∃ en n, o.data = .dict en n := ex3 x fun o es ep x => ⟨o, x.1, x.2.1.1, x.2.1.2.1, es, ep, x.2.2.1⟩
theorem cA1 {a : Addr} {xs} (x : h.DictOfH (aE4 C) a xs) : ∃ o, h.get? a = some o /\ o.cls = .type "dict" /\ o.dict = none /\ ∃ en n, o.data = .dict en n := ex3 x fun o es ep x => ⟨o, x.1, x.2.1.1, x.2.1.2.1, es, ep, x.2.2.1⟩
theorem bD0 {a : Addr} {kvs} (hn : n < 2) (d : h.DictOf (aC3 C n) a kvs) (p : PairK C h ρ es kvs) (ha : allK n es = true) (ne : es ≠ []) : DictOk C h ρ a es :=
 ⟨bO d, fun n' hn' q => aQ ne ha q ▸ ⟨kvs, d, p⟩, fun q => absurd (aQ ne ha q ▸ hn) (Nat.lt_irrefl 2)⟩
theorem cC {a : Addr} {xs} (d : h.DictOfH (aE4 C) a xs) (p : PairT C h ρ es xs) (ha : allK 2 es = true) (ne : es ≠ []) : DictOk C h ρ a es :=
 ⟨cA1 d, fun n' hn' q => absurd (aQ ne ha q ▸ hn') (Nat.lt_irrefl 2), fun _ => ⟨xs, d, p⟩⟩
theorem DictOk.at {a : Addr} {k' : Value} {g : Prop} (D : DictOk C h ρ a es) (rk : RepP C h ρ k k') (hk : aA8 k es = true)
  (f : ∀ n kvs, n < 2 -> n = kindOf k -> isAt n k k' = true -> h.DictOf (aC3 C n) a kvs -> PairK C h ρ es kvs -> OptRep C h ρ (aA9 k es) (valueAt kvs k) -> g)
  (t : ∀ b xs, 2 = kindOf k -> k' = .ref b -> (aE4 C).is h k b -> h.DictOfH (aE4 C) a xs -> PairT C h ρ es xs -> OptRep C h ρ (aA9 k es) ((atKey xs k).map (·.2)) -> g) : g := by
 refine aA hk fun q a => ?_
 cases k with
 | int i => exact ex1 rk fun u e => ex1 (D.kk 0 (by decide) a) fun kvs r => f 0 kvs (by decide) rfl (by rw [e]; exact beq_self_eq_true i) r.1 r.2 (r.2.look q a)
 | str i => exact ex1 rk fun u e => ex1 (D.kk 1 (by decide) a) fun kvs r => f 1 kvs (by decide) rfl (by rw [e]; exact beq_self_eq_true i) r.1 r.2 (r.2.look q a)
 | tup l => exact ex1 rk fun b r => ex2 r fun vs n r => ex1 (D.tk a) fun xs x => t b xs rfl r.1 ⟨q, bV3 _ 4 _ q (r.1 ▸ rk)⟩ x.1 x.2 (x.2.look q a)
 | _ => exact nomatch q
end
structure Sta (C : Cx) (P : PI) : Prop where
 kin : C.K.In C.h₀
 top : TopRead C.p C.loose C.mg C.mb C.h₀
 sysm : ∃ o, C.h₀.get? sysModules = some o
 glob : ∀ x v, P.glob x = some v -> (∃ u, nsIn C.K mainGlobals x = some (some u) /\ Rep C C.h₀ ρ0 v u) ∨ (nsIn C.K mainGlobals x = some none /\ ∃ t, v = .blt t /\ bootBuiltins x = some (bltV t) /\ x ≠ Str.ofString "__name__")
 sd : ∀ x es, P.sd x = some es -> ∃ a, nsIn C.K mainGlobals x = some (some (.ref a)) /\ (a == sysModules) = false /\ DictOk C C.h₀ ρ0 a es
section
variable {C : Cx} {P : PI} {h : Heap} {ρ : Rho} {m : Mem} {c : Nat} {s : Shared} {A : Around} {E : Value -> Shared -> Prop} {K : Kt MV} {Q : Value -> Shared -> Prop}
theorem Sh.grow0 (H : Sh C ρ m c h) : Grow ρ0 ρ C.h₀ := ⟨⟨fun a o e _ q => (nomatch e.symm.trans (H.fresh a q)), fun _ q => (nomatch q)⟩, fun a q => .inr (H.froz a q).1, fun e => (nomatch e)⟩
theorem Sh.keepN (H : Sh C ρ m c h) : aF1 ρ0 C.h₀ h := fun b o e _ _ => H.keep0 b o e
theorem bS4 (S : Sta C P) (H : Sh C ρ m c h) {a : Addr} (q : a ∈ ρ.a) : (a == sysModules) = false := beq_false_of_ne fun z => ex1 S.sysm fun o e => nomatch e.symm.trans ((congrArg C.h₀.get? z).symm.trans (H.fresh a q))
theorem cQ7 (S : Sta C P) (H : Sh C ρ m c h) {x : Str} {es : List (PV × MV)} {v : Value} {g : Prop} (e : P.sd x = some es) (r : Rep C h ρ (.glob x) v) (f : ∀ a, v = .ref a -> (a == sysModules) = false -> DictOk C h ρ a es -> g) : g :=
 ex1 (S.sd x es e) fun a q => ex1 q.2.2.is fun o y => f a (zzC (zzC (r.1.symm.trans q.1))) q.2.1 (q.2.2.mono H.keepN H.grow0 ((H.keep0 _ _ y.1).trans y.1.symm))
theorem aD6 {a : MV} {v : Value} (r : Rep C h ρ a v) : (v == Value.none) = isNone a := by
 cases a with
 | p x => cases x with
  | none => cases (show v = _ from r); rfl
  | bool b => cases (show v = _ from r); rfl
  | int i => exact ex1 r fun t e => e ▸ rfl
  | str i => exact ex1 r fun t e => e ▸ rfl
  | tup l => exact ex3 r fun _ _ _ r => r.1 ▸ rfl
  | fin _ _ l => exact ex3 r fun _ _ _ r => ex3 r fun _ _ _ r => r.1 ▸ rfl
 | obj i => exact ex1 r fun _ r => r.2 ▸ rfl
 | inst i _ => exact ex3 r fun _ _ _ r => r.1 ▸ rfl
 | glob i => exact r.2.elim fun _ r => r ▸ rfl
 | blt t => exact (show v = _ from r) ▸ (by unfold bltV; split <;> rfl)
 | rng n => exact ex3 r fun _ _ _ r => ex1 r fun _ r => r.1 ▸ rfl
 | frz l => exact ex2 r fun _ _ r => r.1 ▸ rfl
 | any => exact ex1 r fun _ r => r ▸ rfl
theorem dE5 {x y : PV} {g : Prop} (q : okQ x y = true) (f : (∀ {v}, RepP C h ρ x v -> ∃ as, Reads h v (toPy x) as) -> (∀ {v}, RepP C h ρ y v -> ∃ as, Reads h v (toPy y) as) -> SeqAt.shaped (toPy x) = true -> SeqAt.shaped (toPy y) = true -> PyData.eqv (toPy x) (toPy y) = peq x y -> g) : g := by
 have sh : ∀ {x}, okE 8 x = true -> SeqAt.shaped (toPy x) = true := fun {x} p => Bool.and_eq_true_iff.mpr ⟨(aO3 x 8 p).1, decide_eq_true (nT (aO3 x 8 p).2 (by decide))⟩
 have main : (okE 8 x && okE 8 y) = true -> g := fun q => aA q fun a b => f (aF3 x 8 _ a) (aF3 y 8 _ b) (sh a) (sh b) (bF0 x 8 8 y a b)
 cases x with
 | bool a => cases y with
  | bool b => exact f (fun r => rd r ⟨_, Reads.bool a⟩) (fun r => rd r ⟨_, Reads.bool b⟩) rfl rfl rfl
  | _ => exact main q
 | int i => cases y <;> first | exact main q | exact main rfl
 | _ => exact main q
theorem cP0 {a : Int} {l : List PV} : ∀ {t : Bool} {vs : List Value}, aR3 a l = some t -> RepPs C h ρ l vs -> (∀ y ∈ vs, ∃ i t, y = .int i t) /\ vs.any (fun y => match y with | .int i _ => i == a | _ => false) = t := by
 induction l with
 | nil => exact fun e r => (show _ = [] from r) ▸ ⟨fun y hy => (nomatch hy), zzC e⟩
 | cons x l ih =>
  intro t vs e r
  refine ex2 r fun v r' r => ?_
  cases x with
  | int b =>
   refine ex1 r.2.1 fun u ev => aB (o := aR3 a l) (k := fun t' => (decide (b = a) || t') = t) ?_ fun t' et e' => ?_
   ·revert e; show (match aR3 a l with | some t => some (decide (b = a) || t) | none => none) = some t -> _
    cases aR3 a l with
    | none => exact fun e => nomatch e
    | some t' => exact zzC
   ·have := ih et r.2.2
    rw [r.1, ev]
    exact ⟨fun y hy => (List.mem_cons.mp hy).elim (fun z => ⟨b, u, z⟩) (this.1 y), (congrArg (_ || ·) this.2).trans e'⟩
  | _ => exact nomatch e
theorem dP6 {neg : Bool} {a b : MV} {a' b' : Value} (S : Sta C P) (hu : A.units + 64 < cLine) (H : Sh C ρ m c s.heap) (ra : Rep C s.heap ρ a a') (rb : Rep C s.heap ρ b b') (e0 : cD4 P m a b fun t => K (b_ (cond neg (!t) t)) m c) (k : Out C ρ s K Q) :
  wpAny (model C.prog C.w) A (PySem.compareOp (cond neg .NotIn .In) a' b') Q E s := by
 refine aA5 e0 fun x hx e1 => ?_
 subst hx
 have dict : ∀ d es, b' = .ref d -> (d == sysModules) = false -> DictOk C s.heap ρ d es -> chk (aA8 x es) (K (b_ (cond neg (!(aA9 x es).isSome) (aA9 x es).isSome)) m c) -> wpAny (model C.prog C.w) A (PySem.compareOp (cond neg .NotIn .In) a' b') Q E s :=
  fun d es eb hs D e => aA0 e fun hk e => by
   subst eb
   refine D.at ra hk (fun n kvs hn _ hi hd p o => ?_) (fun b xs _ ea hi hd p o => ?_)
   ·rw [<- o.isSome] at e
    cases neg with
    | false => exact wpAny_in_of (knd := aC3 C n) hi hs hd.mapOf (aE2 H k e rfl _)
    | true => exact wpAny_notIn_of (knd := aC3 C n) hi hs hd.mapOf (aE2 H k e rfl _)
   ·subst ea
    rw [<- o.isSome, Option.isSome_map] at e
    cases neg with
    | false => exact wpAny_in_heap (knd := aE4 C) (by show A.units + 1 + 16 < cLine; lia) hi hs hd (aE2 H k e rfl _)
    | true => exact wpAny_notIn_heap (knd := aE4 C) (by show A.units + 1 + 16 < cLine; lia) hi hs hd (aE2 H k e rfl _)
 cases b with
 | p l =>
  refine aE1 e1 fun i hi e => aG3 e fun l hl e => aB e fun t ht e2 => ?_
  subst hi hl
  refine ex1 ra fun u ea => ex3 rb fun d vs n r => ?_
  obtain ⟨rfl, hd, _, _, r⟩ := r
  subst ea
  have hi := cP0 ht r
  have he : ∀ y, y ∈ vs.toArray -> PySem.MeetsSeq.EqGives y (.int i u) (match y with | .int j _ => j == i | _ => false) := fun y hy => ex2 (hi.1 y (List.mem_toArray.mp hy)) fun j w ey => by
   subst ey
   intro prog w A E s Q hq
   exact wpAny_eqBool_int hq
  have hany : vs.toArray.any (fun y => match y with | .int j _ => j == i | _ => false) = t := List.any_toArray.trans hi.2
  cases neg with
  | false => exact PySem.SeqRoads2.in_tuple _ he hd (hany ▸ aM1 H k e2)
  | true => exact PySem.SeqRoads2.notIn_tuple _ he hd (hany ▸ aM1 H k e2)
 | obj i => exact aZ6 e1 fun es he e => ex1 rb fun d r => dict d es r.2 (bS4 S H (zzL r.1)) (H.cell i d _ r.1 he).1 e
 | glob x => exact aB e1 fun es he e => cQ7 S H he rb fun d ed hs D => dict d es ed hs D e
 | _ => exact e1.elim
theorem cI5 {op : CmpOp} {a b : MV} {a' b' : Value} (S : Sta C P) (hu : A.units + 64 < cLine) (H : Sh C ρ m c s.heap) (ra : Rep C s.heap ρ a a') (rb : Rep C s.heap ρ b b') (e : aG1 P op a b K m c) (k : Out C ρ s K Q) :
  wpAny (model C.prog C.w) A (PySem.compareOp op a' b') Q E s := by
 cases op with
 | Eq =>
  cases a with
  | p x =>
   exact aA5 e fun y hy e => aA0 e fun q e2 => by
    subst hy
    exact dE5 q fun rx ry sx sy ee => ex1 (rx ra) fun as r1 => ex1 (ry rb) fun bs r2 => eq_dataH r1 r2 sx sy hu (aM1 H k (ee ▸ e2))
  | obj i =>
   refine aQ4 e fun j hj e => aC9 e fun l hl e => aC9 e fun r hr e => aA0 e fun q2 e9 => ?_
   subst hj
   refine aI4 H ra hl fun x vs n ex ea hx rx lx => aI4 H rb hr fun y ws n' ey eb hy ry ly => ?_
   subst ea eb
   have q2 := Bool.and_eq_true_iff.mp q2
   refine ex1 (aN4 l q2.1 rx) fun as r1 => ex1 (aN4 r q2.2 ry) fun bs r2 => ?_
   have sh : ∀ {l}, okEs 8 l = true -> SeqAt.shaped (.list (aP4 l)) = true := fun {l} p => Bool.and_eq_true_iff.mpr ⟨(aY6 l p).1, decide_eq_true (nT (zzd (aY6 l p).2) (by decide))⟩
   exact eq_dataH (.list hx rfl rfl r1) (.list hy rfl rfl r2) (sh q2.1) (sh q2.2) hu (aM1 H k ((bF0 (.tup l) 9 9 (.tup r) q2.1 q2.2) ▸ e9))
  | _ => exact e.elim
 | NotEq =>
  exact aA5 e fun x hx e => aA5 e fun y hy e => aA0 e fun q e2 => by
    subst hx hy
    exact dE5 q fun rx ry sx sy ee => ex1 (rx ra) fun as r1 => ex1 (ry rb) fun bs r2 => ne_dataH r1 r2 sx sy hu (aM1 H k (ee ▸ e2))
 | Lt => exact aJ2 ra rb e fun i j t u ea eb e => by subst ea eb; exact lt_int (aM1 H k e)
 | LtE => exact aJ2 ra rb e fun i j t u ea eb e => by subst ea eb; exact le_int (aM1 H k e)
 | Gt => exact aJ2 ra rb e fun i j t u ea eb e => by subst ea eb; exact gt_int (aM1 H k e)
 | GtE => exact aJ2 ra rb e fun i j t u ea eb e => by subst ea eb; exact ge_int (aM1 H k e)
 | Is =>
  exact aA0 e fun q e => by
   obtain rfl := eq_of_beq ((aD6 rb).trans q)
   exact PySem.is_none (aD6 ra ▸ aM1 H k e)
 | IsNot =>
  exact aA0 e fun q e => by
   obtain rfl := eq_of_beq ((aD6 rb).trans q)
   exact PySem.isNot_none (aD6 ra ▸ aM1 H k e)
 | In => exact dP6 (neg := false) S hu H ra rb e k
 | NotIn => exact dP6 (neg := true) S hu H ra rb e k
end
section
variable {C : Cx} {h h' : Heap} {ρ ρ' : Rho} {m m' : Mem} {c c' : Nat} {s s' : Shared} {A : Around} {E : Value -> Shared -> Prop} {K : Kt MV} {Q : Value -> Shared -> Prop}
noncomputable abbrev OutB (C : Cx) (ρ : Rho) (s : Shared) (K : Kt Bool) (Q : Bool -> Shared -> Prop) : Prop := ∀ b ρ' m' c' s', K b m' c' -> Nx C ρ s m' c' ρ' s' -> Q b s'
noncomputable abbrev OutU (C : Cx) (ρ : Rho) (s : Shared) (K : Kt Unit) (Q : Unit -> Shared -> Prop) : Prop := ∀ ρ' m' c' s', K () m' c' -> Nx C ρ s m' c' ρ' s' -> Q () s'
theorem bW4 {K : Kt Bool} {Q : Bool -> Shared -> Prop} {b : Bool} (H : Sh C ρ m c s.heap) (k : OutB C ρ s K Q) (e : K b m c) (t : Nat) : Q b { s with toks := t } := k _ _ _ _ _ e (Nx.toks H t)
theorem bF8 {l : List PV} {vs : List Value} (r : RepPs C h ρ l vs) : (!vs.toArray.isEmpty) = !l.isEmpty := by
 cases l with
 | nil => exact (show vs = [] from r) ▸ rfl
 | cons x l => exact ex2 r fun v r' r => r.1 ▸ rfl
theorem aO5 {a : MV} {a' : Value} {K : Kt Bool} {Q : Bool -> Shared -> Prop} (H : Sh C ρ m c s.heap) (ra : Rep C s.heap ρ a a') (e : truK a K m c) (hK : Bd K) (k : OutB C ρ s K Q) : wpAny (model C.prog C.w) A (PySem.truthy a') Q E s := by
 cases a with
 | p x => cases x with
  | none => cases (show a' = _ from ra); exact truthy_none (bW4 H k e s.toks)
  | bool b => cases (show a' = _ from ra); exact wpAny_truthy_bool (bW4 H k e s.toks)
  | int i =>
   exact ex1 ra fun t ea => by
    subst ea
    exact PyProof.Rows.truthy_int ((show (i != 0) = !decide (i = 0) from rfl) ▸ bW4 H k e s.toks)
  | tup l =>
   exact ex3 ra fun x vs n r => by
    obtain ⟨rfl, hx, _, hl, r⟩ := r
    exact ktl_truthy hx (by rw [zzV, r.length]; unfold bigN at hl; lia) (bF8 r ▸ bW4 H k e _)
  | _ => exact e.elim
 | obj i =>
  exact aC9 e fun l hl e => aI4 H ra hl fun x vs n ex ea hx r lc => by
   subst ea
   exact wpAny_truthy_list (aB6 hx) (by rw [zzV, r.length]; have := nT lc (hK _ _ _ e); unfold bigN at this; lia) (bF8 r ▸ bW4 H k e _)
 | _ => exact e.elim
theorem dL7 {k n : Nat} (h1 : k < n) : seqIndex? k n = some k := by
 unfold seqIndex?
 have a : ¬ (k : Int) < 0 := by lia
 simp [a, h1]
theorem RepPs.get {l : List PV} : ∀ {vs : List Value} {i : Nat} {x : PV}, RepPs C h ρ l vs -> l[i]? = some x -> ∃ v, vs[i]? = some v /\ RepP C h ρ x v := by
 induction l with
 | nil => exact fun _ e => nomatch e
 | cons y l ih =>
  intro vs i x r e
  obtain ⟨v, r', rfl, r1, r2⟩ := r
  cases i with
  | zero => exact ⟨v, rfl, zzC e ▸ r1⟩
  | succ i => exact ih (vs := r') (i := i) r2 e
theorem Reps.get {l : List MV} : ∀ {vs : List Value} {i : Nat} {x : MV}, Reps C h ρ l vs -> l[i]? = some x -> ∃ v, vs[i]? = some v /\ Rep C h ρ x v := by
 induction l with
 | nil => exact fun _ e => nomatch e
 | cons y l ih =>
  intro vs i x r e
  obtain ⟨v, r', rfl, r1, r2⟩ := r
  cases i with
  | zero => exact ⟨v, rfl, zzC e ▸ r1⟩
  | succ i => exact ih (vs := r') (i := i) r2 e
theorem RepPs.set {l : List PV} {x : PV} {v : Value} (rx : RepP C h ρ x v) : ∀ {vs : List Value} {i : Nat}, RepPs C h ρ l vs -> RepPs C h ρ (l.set i x) (vs.set i v) := by
 induction l with
 | nil => exact fun r => (show _ = [] from r) ▸ rfl
 | cons y l ih =>
  intro vs i r
  obtain ⟨w, r', rfl, r1, r2⟩ := r
  cases i with
  | zero => exact ⟨v, r', rfl, rx, r2⟩
  | succ i => exact ⟨w, r'.set i v, rfl, r1, ih r2⟩
theorem Reps.length : ∀ {l : List MV} {vs : List Value}, Reps C h ρ l vs -> vs.length = l.length := fun {l} => by
 induction l with
 | nil => exact fun r => congrArg _ (show _ = [] from r)
 | cons x l ih => exact fun r => ex2 r fun v r' r => r.1 ▸ congrArg (· + 1) (ih r.2.2)
theorem Reps.append {r : List MV} {us : List Value} (b : Reps C h ρ r us) : ∀ {l : List MV} {vs : List Value}, Reps C h ρ l vs -> Reps C h ρ (l ++ r) (vs ++ us) := fun {l} => by
 induction l with
 | nil => exact fun {vs} a => (show vs = [] from a) ▸ b
 | cons x l ih => exact fun a => ex2 a fun v r' a => ⟨v, r' ++ us, congrArg (· ++ us) a.1, a.2.1, ih a.2.2⟩
theorem cE1 {vs : List Value} {i : Nat} {v : Value} (e : vs[i]? = some v) : vs.toArray[i]? = some v := List.getElem?_toArray.trans e
theorem aM5 {k : PV} {b' : Value} {k' : Nat -> Prop} {g : Prop} (rb : RepP C h ρ k b') (e : onI k fun j => onN j k') (f : ∀ (n : Nat) t, k = .int n -> b' = .int n t -> n < 1000000 -> k' n -> g) : g :=
 aE1 e fun j hj e => aU2 e fun n hn hl e2 => by subst hj hn; exact ex1 rb fun t eb => f n t rfl eb hl e2
theorem big (n : Nat) (h : n < 1000000) : (n : Int) < 2 ^ 63 := by lia
theorem bV8 {a b : MV} {a' b' : Value} (hu : A.units + 64 < cLine) (H : Sh C ρ m c s.heap) (ra : Rep C s.heap ρ a a') (rb : Rep C s.heap ρ b b') (e0 : getI a b K m c) (k : Out C ρ s K Q) : wpAny (model C.prog C.w) A (PySem.getItem a' b') Q E s := by
 refine aA5 e0 fun y hy e1 => ?_
 subst hy
 cases a with
 | p x =>
  refine aG3 e1 fun l hx e => aM5 rb e fun n t _ eb hn e => aB e fun u hu e2 => ?_
  subst hx eb
  refine ex3 ra fun x vs n' r => ?_
  obtain ⟨rfl, hx, _, _, r⟩ := r
  refine ex1 (r.get hu) fun w r2 => ?_
  exact PyProof.Rows.getItem_tuple (items := vs.toArray) (j := n) ⟨_, hx, rfl, n', rfl⟩ (by lia) (big n hn) (dL7 (by rw [zzV]; exact (zzA.mp r2.1).1)) (cE1 r2.1) (aE2 H k e2 r2.2 s.toks)
 | obj i =>
  revert e1
  show (match m[i]? with | some (.pl l) => _ | some (.list l) => _ | some (.dict es) => _ | _ => False) -> _
  cases hm : m[i]? with
  | none => exact fun e => e.elim
  | some o => cases o with
   | pl l =>
    exact fun e => aM5 rb e fun n t _ eb hn e => aB e fun u hu e => aI4 H ra hm fun x vs n' ex ea hx r lc => ex1 (r.get hu) fun w r2 => by
     subst ea eb
     exact wpAny_getItem_list (k := (n : Int)) (aB6 hx) (by lia) (big n hn) (cE1 r2.1) (aE2 H k e r2.2 s.toks)
   | list l =>
    exact fun e => aM5 rb e fun n t _ eb hn e => aB e fun u hu e => ex1 ra fun x ra => ex2 (H.cell i x _ ra.1 hm) fun vs n' q => ex1 (q.2.1.get hu) fun w r2 => by
     cases ra.2; subst eb
     exact wpAny_getItem_list (k := (n : Int)) (aB6 q.1) (by lia) (big n hn) (cE1 r2.1) (aE2 H k e r2.2 s.toks)
   | dict es =>
    exact fun e => aB e fun u hu' e => aA0 e fun q9 e9 => ex1 ra fun x ra => (H.cell i x _ ra.1 hm).1.at rb q9 (fun n kvs hn _ hi hd p o => ex1 (o.get hu') fun w q => by
      cases ra.2
      exact wpAny_getItem_of (knd := aC3 C n) hi hd.mapOf q.1 (aE2 H k e9 q.2 _))
     fun b xs _ ea hi hd p o => ex1 (o.get hu') fun w q => by
      cases ra.2; subst ea
      obtain ⟨pr, ep, rfl⟩ := Option.map_eq_some_iff.mp q.1
      exact wpAny_getItem_heap (knd := aE4 C) (by show A.units + 1 + 16 < cLine; lia) hi hd ep (aE2 H k e9 q.2 _)
   | attrs l => exact fun e => e.elim
 | _ => exact e1.elim
theorem aS0 {k : PV} {v : MV} {es : List (PV × MV)} : (dput k v es).length <= es.length + 1 := by
 induction es with
 | nil => exact nR _
 | cons x es ih =>
  show (match peq x.1 k with | true => (x.1, v) :: es | false => x :: dput k v es).length <= _
  cases peq x.1 k with
  | true => exact Nat.le_succ _
  | false => exact zzd ih
theorem PairK.length {es : List (PV × MV)} : ∀ {kvs}, PairK C h ρ es kvs -> kvs.length = es.length := by
 induction es with
 | nil => exact fun r => congrArg _ (show _ = [] from r)
 | cons x l ih => exact fun r => ex2 r fun v r' r => r.1 ▸ congrArg (· + 1) (ih r.2.2)
theorem PairT.length {es : List (PV × MV)} : ∀ {kvs}, PairT C h ρ es kvs -> kvs.length = es.length := by
 induction es with
 | nil => exact fun r => congrArg _ (show _ = [] from r)
 | cons x l ih => exact fun r => ex3 r fun b v r' r => r.1 ▸ congrArg (· + 1) (ih r.2.2.2)
theorem bX3 {a b v : MV} {a' b' v' : Value} {K : Kt Unit} {Q : Unit -> Shared -> Prop} (hu : A.units + 64 < cLine) (H : Sh C ρ m c s.heap) (ra : Rep C s.heap ρ a a') (rb : Rep C s.heap ρ b b') (rv : Rep C s.heap ρ v v') (e0 : setI a b v K m c) (hK : Bd K) (k : OutU C ρ s K Q) :
  wpAny (model C.prog C.w) A (PySem.setItem a' b' v') Q E s := by
 refine aQ4 e0 fun i hi e => aA5 e fun y hy e1 => ?_
 subst hi hy
 revert e1
 show (match m[i]? with | some (.pl l) => _ | some (.dict es) => _ | _ => False) -> _
 cases hm : m[i]? with
 | none => exact fun e => e.elim
 | some o => cases o with
  | pl l =>
   exact fun e => aA5 e fun x hx e => aM5 rb e fun n t _ eb hn e2 => aI4 H ra hm fun a vs n' ex ea ha r lc => by
    subst hx eb ea
    refine ki_setAt (k := (n : Int)) ha (by lia) (big n hn) (by rw [zzV, r.length]; have := zzU (aI9 e2).1; lia) ?_
    have hs : Heap.SameBut a s.heap (s.heap.update a (Obj.mapSeq (·.setIfInBounds (n : Int).toNat v'))) := Heap.SameBut.update ..
    refine k _ _ _ _ (aI9 e2).2 (Nx.upd (o' := .pl (l.set n x)) H s.toks (nR c) ex hs ⟨vs.set n v', n', ?_, (r.set rv).mono (SameBut.keep ex hs).d Less.refl, by rw [List.length_set]; exact lc⟩)
    rw [Heap.get?_update_self _ ha (by rfl)]
    simp [Obj.mapSeq]
  | dict es =>
   exact fun e => aA0 e fun q9 e9 => ex1 ra fun x ra => by
    cases ra.2
    have D := H.cell i x _ ra.1 hm
    have hz : es.length <= sizeLine := nT D.2 (nT (zzc (hK _ _ _ e9)) (by decide))
    refine D.1.at rb q9 (fun n kvs hn en hi hd p o => ?_) fun b xs en ea hi hd p o => ?_
    ·refine wpAny_setItem_pairs (knd := aC3 C n) hi hd (fun h' d' hs => k _ _ _ _ e9 (Nx.upd (o' := .dict (dput y v es)) H _ (Nat.le_succ c) ra.1 hs ?_)) (by rw [p.length]; exact hz)
     refine ⟨bD0 hn d' ((PairK.put (aA q9 fun q _ => q) rv (ex3 hd fun _ _ _ z => z.2.2.2.2.2) (en ▸ aA q9 fun _ q => q) p).mono (SameBut.keep ra.1 hs).d Grow.refl) (en ▸ aD2 (aA q9 fun q _ => q) (aA q9 fun _ q => q)) bN3, nT aS0 (zzd D.2)⟩
    ·subst ea
     refine wpAny_setItem_heap (knd := aE4 C) (by show A.units + 1 + 16 < cLine; lia) hi hd (fun h' d' hs => k _ _ _ _ e9 (Nx.upd (o' := .dict (dput y v es)) H _ (Nat.le_succ c) ra.1 hs ?_)) (by rw [p.length]; exact hz)
     refine ⟨cC d' ((PairT.put (aA q9 fun q _ => q) rb rv (ex3 hd fun _ _ _ z => z.2.2.2.2.2) (en ▸ aA q9 fun _ q => q) p).mono (SameBut.keep ra.1 hs).d Grow.refl) (en ▸ aD2 (aA q9 fun q _ => q) (aA q9 fun _ q => q)) bN3, nT aS0 (zzd D.2)⟩
  | _ => exact fun e => e.elim
end
structure ClsF (K : Frag) (A : Addr) : Prop where
 ga : findIn K (.ref A) "__getattribute__" = some (some (.builtin "object.__getattribute__"))
 gn : findIn K (.ref A) "__getattr__" = some none
 sa : findIn K (.ref A) "__setattr__" = some (some (.builtin "object.__setattr__"))
 hd : hasDictIn K A = true
 po : plainOver K A = true
 mi : makesIn K A = true
structure StaC (C : Cx) (P : PI) : Prop extends Sta C P where
 cls : ∀ c A, C.clsA c = some A -> ClsF C.K A
 attr : ∀ c A x, C.clsA c = some A -> P.attr c x = true -> findIn C.K (.ref A) x = some none
section
variable {C : Cx} {P : PI} {h h' : Heap} {ρ : Rho} {m : Mem} {c : Nat} {s : Shared} {A : Around} {E : Value -> Shared -> Prop} {K : Kt MV} {Q : Value -> Shared -> Prop}
theorem bH {x : PV} {v : Value} (r : RepP C h ρ x v) : handedIn v = true := by
 cases x with
 | none => cases (show v = _ from r); rfl
 | bool b => cases (show v = _ from r); rfl
 | int i => exact ex1 r fun t e => e ▸ rfl
 | str i => exact ex1 r fun t e => e ▸ rfl
 | tup l => exact ex3 r fun _ _ _ r => r.1 ▸ rfl
 | fin _ _ l => exact ex3 r fun _ _ _ r => ex3 r fun _ _ _ r => r.1 ▸ rfl
theorem bK3 {a : MV} {v : Value} (r : Rep C h ρ a v) : handedIn v = true := by
 cases a with
 | p x => exact bH r
 | obj i => exact ex1 r fun _ r => r.2 ▸ rfl
 | inst i _ => exact ex3 r fun _ _ _ r => r.1 ▸ rfl
 | glob i => exact r.2.elim fun _ r => r ▸ rfl
 | blt t =>
  cases (show v = _ from r)
  unfold bltV
  split
  ·decide +kernel
  ·rfl
 | rng n => exact ex3 r fun _ _ _ r => ex1 r fun _ r => r.1 ▸ rfl
 | frz l => exact ex2 r fun _ _ r => r.1 ▸ rfl
 | any => exact ex1 r fun _ r => r ▸ rfl
theorem aN0 {e : DictEntry} {y : Str} {t : Tok} (b : e.key = .str y t) (x : Str) : e.key.isStr x = (y == x) := by rw [b]; rfl
theorem aZ2 {x y : Str} : (x == y) = (y == x) := by rw [Bool.eq_iff_iff, beq_iff_eq, beq_iff_eq]; exact eq_comm
theorem Ents.noRef {l : List (Str × MV)} : ∀ {es : List DictEntry}, Ents C h ρ l es -> es.any (fun x => x.refKey) = false := by
 induction l with
 | nil => exact fun e => (show _ = [] from e) ▸ rfl
 | cons y l ih =>
  exact fun e => ex2 e fun x r e => ex1 e.2.1 fun t b => by
   rw [e.1, List.any_cons, ih e.2.2.2, DictEntry.refKey, b]; rfl
theorem Ents.look {x : Str} {l : List (Str × MV)} : ∀ {es : List DictEntry}, Ents C h ρ l es -> OptRep C h ρ (l.lookup x) ((es.find? (fun e => e.key.isStr x)).map (·.val)) := by
 induction l with
 | nil => exact fun e => (show _ = [] from e) ▸ trivial
 | cons y l ih =>
  exact fun e => ex2 e fun z r e => ex1 e.2.1 fun t b => by
   rw [e.1, zzQ, List.find?_cons, aN0 b, aZ2]
   cases y.1 == x with
   | true => exact e.2.2.1
   | false => exact ih e.2.2.2
theorem Ents.put {x : Str} {u : MV} {hsh : Int} {t : Nat} {v : Value} (rv : Rep C h ρ u v) {l : List (Str × MV)} : ∀ {es : List DictEntry}, Ents C h ρ l es -> Ents C h ρ (aput x u l) (putL x hsh (.str x t) v es) := by
 induction l with
 | nil => exact fun e => (show _ = [] from e) ▸ ⟨⟨hsh, .str x t, v⟩, [], rfl, ⟨t, rfl⟩, rv, rfl⟩
 | cons y l ih =>
  exact fun e => ex2 e fun z r e => ex1 e.2.1 fun t' b => by
   rw [e.1]
   show Ents C h ρ (match x == y.1 with | true => (y.1, u) :: l | false => y :: aput x u l) _
   unfold putL
   rw [aN0 b, show (y.1 == x) = (x == y.1) from aZ2]
   cases x == y.1 with
   | true => exact ⟨_, _, rfl, ⟨t', b⟩, rv, e.2.2.2⟩
   | false => exact ⟨_, _, rfl, ⟨t', b⟩, e.2.2.1, ih e.2.2.2⟩
theorem Ents.length {l : List (Str × MV)} : ∀ {es : List DictEntry}, Ents C h ρ l es -> es.length = l.length := by
 induction l with
 | nil => exact fun e => congrArg _ (show _ = [] from e)
 | cons y l ih => exact fun e => ex2 e fun x r e => e.1 ▸ congrArg (· + 1) (ih e.2.2.2)
theorem bZ8 (x : Str) (hsh : Int) (k v : Value) (es : List DictEntry) : (putL x hsh k v es).length <= es.length + 1 := by
 induction es with
 | nil => exact nR _
 | cons e r ih =>
  unfold putL
  split
  ·exact Nat.le_succ _
  ·exact zzd ih
theorem bR1 {x : Str} {es : List DictEntry} {v : Value} (e : (es.find? (fun e => e.key.isStr x)).map (·.val) = some v) : PySem.W.getL x es = some (some v) := by
 unfold PySem.W.getL
 cases q : es.find? (fun e => e.key.isStr x) with
 | none => rw [q] at e; cases e
 | some y => rw [q] at e; exact congrArg some e
theorem Ents.getN {x : Str} {l : List (Str × MV)} {es : List DictEntry} (H : Ents C h ρ l es) (e : l.lookup x = none) : PySem.W.getL x es = some none := by
 have := H.look (x := x)
 rw [e] at this
 unfold PySem.W.getL
 cases q : es.find? (fun e => e.key.isStr x) with
 | some _ => rw [q] at this; exact this.elim
 | none => rw [H.noRef]; rfl
theorem FinE.look {x : Str} : ∀ {xs : List Str} {l : List PV} {vs : List Value} {es : List DictEntry} {w : PV}, FinE xs vs es -> RepPs C h ρ l vs -> bZ0 x xs l = some w -> ∃ v, (es.find? (fun e => e.key.isStr x)).map (·.val) = some v /\ RepP C h ρ w v := fun {xs} => by
 induction xs with
 | nil => exact fun _ _ e => nomatch e
 | cons y xs ih =>
  intro l vs es w f r e
  cases l with
  | nil => exact nomatch e
  | cons u l =>
   obtain ⟨v, vs', rfl, ru, r⟩ := r
   obtain ⟨z, es', rfl, ⟨t, b⟩, rfl, f⟩ := f
   revert e
   show (match x == y with | true => some u | false => bZ0 x xs l) = some w -> _
   rw [List.find?_cons, aN0 b, show (y == x) = (x == y) from aZ2]
   cases x == y with
   | true => exact fun e => ⟨_, rfl, zzC e ▸ ru⟩
   | false => exact fun e => ih f r e
theorem aO {x dx A : Addr} {es : List DictEntry} {n : Nat} (a : h.get? x = some (instObj A dx)) (b : h.get? dx = some (dictOf es n)) : PySem.W.InstAt h x (instObj A dx) A (some (dictOf es n)) := ⟨a, rfl, rfl, b⟩
theorem cI9 {y dx D : Addr} {cn x : Str} {es : List DictEntry} {n : Nat} {u : Value} {b : Bool} (S : StaC C P) (H : Sh C ρ m c s.heap) (ec : C.clsA cn = some D) (hat : P.attr cn x = true) (hy : s.heap.get? y = some (instObj D dx)) (hd : s.heap.get? dx = some (dictOf es n))
  (eu : (es.find? (fun e => e.key.isStr x)).map (·.val) = some u) (hu : handedIn u = true) (q : ∀ t, Q u { s with toks := t }) : wpAny (model C.prog C.w) A (PySem.getAttr (.ref y) x b) Q E s :=
 have F := S.cls cn D ec
 get_value (S.kin.keeps H.keep0) (aO hy hd) F.ga (findObj_own F.hd (S.attr cn D x ec hat) (by rfl) (by rw [lookIn_dict]; exact bR1 eu)) hu (q _)
theorem bP3 {a : MV} {a' : Value} {x : Str} {b : Bool} (S : StaC C P) (H : Sh C ρ m c s.heap) (ra : Rep C s.heap ρ a a') (e : getA P a x K m c) (k : Out C ρ s K Q) : wpAny (model C.prog C.w) A (PySem.getAttr a' x b) Q E s := by
 cases a with
 | inst i cn =>
  exact aA0 e fun hat e => aS8 e fun l hl e => aB e fun v hv e => ex3 ra fun y dx D r => ex2 (H.cell i dx _ r.2.1 hl) fun es n q => ex1 ((q.2.look (x := x)).get hv) fun w z => by
   cases r.1
   exact cI9 S H r.2.2.1 hat r.2.2.2.1 q.1 z.1 (bK3 z.2) fun t => aE2 H k e z.2 t
 | p x => cases x with
  | fin cn xs l =>
   exact aA0 e fun hat e => aB e fun v hv e => ex3 ra fun y dx D r => ex3 r fun es n vs r => by
    obtain ⟨rfl, ec, hy, _, hd, _, _, f, r⟩ := r
    exact ex1 (f.look r hv) fun w z => cI9 S H ec hat hy hd z.1 (bH z.2) fun t => aE2 H k e z.2 t
  | _ => exact e.elim
 | _ => exact e.elim
theorem bY0 {x dx D : Addr} {es : List DictEntry} {n : Nat} {name : Str} {v : Value} {Q : Unit -> Shared -> Prop} (X : C.K.In s.heap) (F : ClsF C.K D) (hy : s.heap.get? x = some (instObj D dx)) (hd : s.heap.get? dx = some (dictOf es n))
  (ht : findIn C.K (.ref D) name = some none) (hr : es.any (fun x => x.refKey) = false) (hz : es.length <= 900)
  (q : ∀ h' t hsh, Heap.SameBut dx s.heap h' -> h'.get? dx = some (dictOf (putL name hsh (.str name t) v es) (putN name es n)) -> Q () { s with heap := h', toks := s.toks + 2 }) :
  wpAny (model C.prog C.w) A (PySem.setAttr (.ref x) name v) Q E s := by
 have I := aO hy hd
 refine set_plain X I F.sa ?_
 have htk : takerIn C.K D name = some none := by unfold takerIn; rw [ht]; rfl
 refine osa_open (s := { s with toks := s.toks + 1 }) X I F.po htk fun b => ?_
 obtain ⟨cd, hc, hd'⟩ := any_some F.hd
 refine wpAny_bind (wpAny_pure (wpAny_bind (wpAny_bind (wpAny_loadPart (s := { s with toks := s.toks + 1 }) hy (wpAny_bind (Looks.here (s := { s with toks := s.toks + 1 }) (looks_clsIn X hc) ?_))))))
 rw [hd']
 refine wpAny_pure (a := some dx) (wpAny_bind (wpAny_pure (wpAny_bind ?_)))
 unfold nsSet
 refine wpAny_bind (wpAny_bind (wpAny_askSetting (wpAny_pure (wpAny_bind (wpAny_mkText (wpAny_bind (wpAny_loadPart hd ?_)))))))
 have c : (!es.toArray.any (·.key.isStr name) && es.toArray.any (·.refKey)) = false := by
  rw [<- Array.any_toList, <- Array.any_toList]
  simp only [hr, Bool.and_false]
 dsimp only
 rw [aRefKeyMayBeTheName_at, c]
 refine wpAny_updatePart hd ?_
 have e1 : Obj.putName name (PyData.keyHash C.w.params name) (.str name (s.toks + 1)) v (dictOf es n) = dictOf (putL name (PyData.keyHash C.w.params name) (.str name (s.toks + 1)) v es) (putN name es n) := putName_dict ..
 have D' : (s.heap.update dx (Obj.putName name (PyData.keyHash C.w.params name) (.str name (s.toks + 1)) v)).get? dx = some (dictOf (putL name (PyData.keyHash C.w.params name) (.str name (s.toks + 1)) v es) (putN name es n)) := by
  rw [Heap.get?_update_self _ hd (by rw [e1]; rfl), e1]
 refine wpAny_bind (wpAny_lookBehind D' (pastItsLine_dict (by
  rw [zzV, sizeLine_eq]
  have := bZ8 name (PyData.keyHash C.w.params name) (.str name (s.toks + 1)) v es
  lia)) ?_)
 exact wpAny_pure (q _ _ _ (Heap.SameBut.update ..) D')
theorem bX1 {a u : MV} {a' u' : Value} {x : Str} {K : Kt Unit} {Q : Unit -> Shared -> Prop} (S : StaC C P) (H : Sh C ρ m c s.heap) (ra : Rep C s.heap ρ a a') (rc : Rep C s.heap ρ u u') (e : setA P a x u K m c) (k : OutU C ρ s K Q) : wpAny (model C.prog C.w) A (PySem.setAttr a' x u') Q E s := by
 cases a with
 | inst i cn =>
  exact aA0 e fun hat e => aS8 e fun l hl e => aA0 e fun hz e => ex3 ra fun y dx D r => ex2 (H.cell i dx _ r.2.1 hl) fun es n q => by
   cases r.1
   refine bY0 (S.kin.keeps H.keep0) (S.cls cn D r.2.2.1) r.2.2.2.1 q.1 (S.attr cn D x r.2.2.1 hat) q.2.noRef (by rw [q.2.length]; have := zzU hz; lia) fun h' t hsh hs hd' => ?_
   exact k _ _ _ _ e (Nx.upd (o' := .attrs (aput x u l)) H _ (nR c) r.2.1 hs ⟨_, _, hd', Ents.put (Rep.mono (SameBut.keep r.2.1 hs).d Grow.refl _ _ rc) (q.2.mono (SameBut.keep r.2.1 hs).d Grow.refl)⟩)
 | _ => exact e.elim
end
noncomputable def bB3 (a : Arguments) (ns : List Str) : Prop := ∃ as, a = { posonlyargs := [], args := as, vararg := none, kwonlyargs := [], kw_defaults := [], kwarg := none, defaults := [] } /\ as.map (·.arg) = ns
theorem aG7 : ∀ {ns : List Str} {vs : List Value}, ns.length = vs.length -> ∀ n ∈ ns, ((ns.zip vs).lookup n).isSome = true
 | [], _, _, n, h => by cases h
 | a :: ns, [], e, _, _ => by cases e
 | a :: ns, v :: vs, e, n, h => by
  rw [List.zip_cons_cons, zzQ]
  by_cases q : n = a
  ·subst q; simp
  ·have : (n == a) = false := by simpa using q
   rw [this]
   rcases List.mem_cons.mp h with h | h
   ·exact absurd h q
   ·exact aG7 (by simpa using e) n h
theorem aL6 {α β : Type} {f g : α -> Option β} : ∀ {l : List α}, (∀ a ∈ l, f a = g a) -> l.filterMap f = l.filterMap g
 | [], _ => rfl
 | a :: l, h => by
  rw [List.filterMap_cons, List.filterMap_cons, h a (.head _), aL6 fun b hb => h b (.tail _ hb)]
theorem aJ0 : ∀ {ns : List Str} {vs : List Value}, ns.Nodup -> ns.length = vs.length -> ns.filterMap (fun n => ((ns.zip vs).lookup n).map (n, ·)) = ns.zip vs
 | [], [], _, _ => rfl
 | [], _ :: _, _, e => by cases e
 | _ :: _, [], _, e => by cases e
 | a :: ns, v :: vs, nd, e => by
  rw [List.nodup_cons] at nd
  rw [List.zip_cons_cons, List.filterMap_cons]
  simp only [zzQ, beq_self_eq_true, Option.map_some]
  congr 1
  refine Eq.trans (aL6 fun n hn => ?_) (aJ0 nd.2 (by simpa using e))
  have : (n == a) = false := by
   have : n ≠ a := fun z => nd.1 (z ▸ hn)
   simpa using this
  rw [this]
theorem dL5 {ns : List Str} {vs : List Value} (e : ns.length = vs.length) : (List.filter (fun n => (List.lookup n (ns.zip vs)).isNone) ns) = [] := List.filter_eq_nil_iff.mpr fun n hn q => by
 have := aG7 e n hn
 rw [Option.isSome_iff_ne_none] at this
 exact this (Option.isNone_iff_eq_none.mp q)
theorem aY8 {fd : FuncData} {ns : List Str} {vs : List Value} (hp : bB3 fd.params ns) (hd : fd.defaults = .none) (nd : ns.Nodup) (e : ns.length = vs.length) : bindArgs fd ⟨vs, []⟩ = pure (ns.zip vs) := by
 obtain ⟨as, ep, en⟩ := hp
 obtain ⟨fn, qn, ps, body, sc, gl, cl, df, kd, doc, pm, an, cd, ct, bt⟩ := fd
 cases hd; cases ep
 refine Eq.trans (if_neg (c := (decide (vs.length > (as.map (·.arg)).length) && true) = true) fun h => absurd (of_decide_eq_true (aA h fun h _ => h)) (by rw [en, e]; exact Nat.lt_irrefl _)) ?_
 refine Eq.trans (if_neg (c := (!(List.filter (fun n => (List.lookup n ((as.map (·.arg)).zip vs)).isNone) ((as.map (·.arg)).take ((as.map (·.arg)).length - (List.drop (([] : List Value).length - (as.map (·.arg)).length) ([] : List Value)).length))).isEmpty) = true) (by rw [en, List.drop_nil, List.length_nil, Nat.sub_zero, List.take_length, dL5 e]; exact Bool.false_ne_true)) ?_
 show (forIn (((as.map (·.arg)).drop ((as.map (·.arg)).length - (List.drop (([] : List Value).length - (as.map (·.arg)).length) ([] : List Value)).length)).zip (List.drop (([] : List Value).length - (as.map (·.arg)).length) ([] : List Value))) _ _ >>= _ : Sem (List (Str × Value))) = _
 rw [List.drop_nil, List.zip_nil_right]
 show (pure (List.filterMap (fun n => Option.map (n, ·) (List.lookup n ((as.map (·.arg)).zip vs))) (as.map (·.arg) ++ [])) : Sem (List (Str × Value))) = _
 rw [en, List.append_nil, aJ0 nd e]
structure EnvOk (env : Env) : Prop where
 kind : env.scope.kind = .function
 glob : env.globals = mainGlobals
 blt : env.builtins = builtinsNs
structure Afr (C : Cx) (env : Env) (ρ : Rho) (m : Mem) (c : Nat) (loc : Loc) (s : Shared) : Prop where
 sh : Sh C ρ m c s.heap
 lo : ∃ f, s.heap.Ns env.locals f /\ ∀ x v, loc.lookup x = some v -> env.kindOf x = some .local -> ∃ v', f x = some v' /\ Rep C s.heap ρ v v'
 ce : ∀ x v, loc.lookup x = some v -> (env.kindOf x = some .cell ∨ env.kindOf x = some .free) -> ∃ q v', env.cells.lookup x = some q /\ s.heap.IsCell q (some v') /\ q ∉ ρ.a /\ Rep C s.heap ρ v v'
 nl : env.locals ∉ ρ.a /\ env.locals ∉ ρ.f
 n0 : C.h₀.get? env.locals = none
structure Nz (C : Cx) (env : Env) (ρ : Rho) (s : Shared) (m' : Mem) (c' : Nat) (loc' : Loc) (ρ' : Rho) (s' : Shared) : Prop where
 at_ : Afr C env ρ' m' c' loc' s'
 keep : ∀ b o, s.heap.get? b = some o -> b ∉ ρ.a -> b ≠ env.locals -> s'.heap.get? b = some o
 grow : Grow ρ ρ' s.heap
 gens : s'.gens = s.gens
 drawn : s'.drawn = s.drawn
 os : s'.os = s.os
section
variable {C : Cx} {P : PI} {h' : Heap} {ρ ρ' ρ'' : Rho} {m m' m'' : Mem} {c c' c'' : Nat} {s s' s'' : Shared} {A : Around} {E : Value -> Shared -> Prop} {env : Env} {loc loc' loc'' : Loc} {K : Kt MV} {Q : Value -> Shared -> Prop}
theorem aR7 {o : Obj} {es : Array DictEntry} {n : Nat} (e : o.data = .dict es n) : aD0 o = false := by unfold aD0; rw [e]
theorem Afr.there (a : Afr C env ρ m c loc s) : ∃ o, s.heap.get? env.locals = some o /\ aD0 o = false := ex1 a.lo fun f l => ex3 l.1 fun o es ep q => ⟨o, q.1, aR7 q.2.1⟩
theorem Afr.next (a : Afr C env ρ m c loc s) (n : Nx C ρ s m' c' ρ' s') : Afr C env ρ' m' c' loc s' where
 sh := n.sh
 lo := ex1 a.lo fun f l => ⟨f, ex3 l.1 fun o es ep q => ⟨o, es, ep, n.keep _ _ q.1 a.nl.1, q.2⟩, fun x v e k => ex1 (l.2 x v e k) fun v' q => ⟨v', q.1, n.rep q.2⟩⟩
 ce x v e k := ex2 (a.ce x v e k) fun q v' r => ex1 r.2.1 fun o z => ⟨q, v', r.1, ⟨o, n.keep _ _ z.1 r.2.2.1, z.2⟩, n.grow.out _ _ z.1 r.2.2.1, n.rep r.2.2.2⟩
 nl := ex1 a.there fun o e => ⟨n.grow.out _ _ e.1 a.nl.1, fun q => (n.grow.frn _ q).elim a.nl.2 fun z => nomatch z.symm.trans e.1⟩
 n0 := a.n0
theorem cP3 {x : Str} {k : NameKind} {v : MV} {g : Prop} (e : dM1 P loc x k = some v) (f0 : k = .globalImplicit -> P.glob x = some v -> g) (f1 : k = .local -> loc.lookup x = some v -> g) (f2 : (k = .cell ∨ k = .free) -> loc.lookup x = some v -> g) : g := by
 cases k with
 | globalImplicit => exact f0 rfl e
 | «local» => exact f1 rfl e
 | cell => exact f2 (.inl rfl) e
 | free => exact f2 (.inr rfl) e
 | _ => exact nomatch e
theorem bB5 {x : Str} (S : Sta C P) (O : EnvOk env) (a : Afr C env ρ m c loc s) (e : evN P env.scope x loc K m c) (k : Out C ρ s K Q) {pos : Pos} : wpAny (model C.prog C.w) A (PySem.eval (.Name x pos) env) Q E s := by
 refine aA0 e fun hd e => aB e fun kd hk e => aB e fun v hv e9 => ?_
 rw [Bool.not_eq_true', Bool.or_eq_false_iff] at hd
 refine wpAny_Name ?_ hd.1
 have hk' : env.kindOf x = some kd := hk
 refine cP3 hv (fun q ee => ?_) (fun q ee => ?_) fun q ee => ?_
 ·subst q
  have T := S.top
  have hmg : s.heap.Ns env.globals C.mg := by rw [O.glob]; exact T.g.keeps a.sh.keep0
  have hann : env.scope.kind.isAnnotationScope = false := by rw [O.kind]; rfl
  have hbk : env.blockKind = .function := by unfold Env.blockKind; rw [hann]; exact O.kind
  unfold loadName
  rw [hann, hk', hbk]
  rcases S.glob x v ee with ⟨u, hu, r⟩ | ⟨hu, t, rfl, hb, hn⟩
  ·exact Calls.loadGlobal_global hmg (mg_of S.kin T.g hu) (aE2 a.sh k e9 (Rep.mono a.sh.keepN a.sh.grow0 _ _ r) s.toks)
  ·exact Calls.loadGlobal_builtin hmg (mg_none_of S.kin T.g hu) (by rw [O.blt]; exact T.b.keeps a.sh.keep0) ((T.builtins x hn).trans hb) (aE2 a.sh k e9 rfl s.toks)
 ·subst q
  exact ex1 a.lo fun f l => ex1 (l.2 x v ee hk') fun v' q => wpAny_loadName_local O.kind hk' l.1 q.1 (aE2 a.sh k e9 q.2 s.toks)
 ·refine ex2 (a.ce x v ee (q.imp (fun q => hk'.trans (congrArg some q)) (fun q => hk'.trans (congrArg some q)))) fun b v' r => ?_
  rcases q with q | q
  ·exact wpAny_loadName_cell O.kind (hk'.trans (congrArg some q)) r.1 r.2.1 (aE2 a.sh k e9 r.2.2.2 s.toks)
  ·exact wpAny_loadName_free O.kind (hk'.trans (congrArg some q)) r.1 r.2.1 (aE2 a.sh k e9 r.2.2.2 s.toks) hd.2
theorem aP8 (x y : Str) (v : MV) (l : Loc) : (setL x v l).lookup y = if y = x then some v else l.lookup y := by
 induction l with
 | nil =>
  show ([(x, v)] : Loc).lookup y = _
  rw [zzQ, List.lookup_nil]
  by_cases q : y = x
  ·rw [if_pos q, beq_iff_eq.mpr q]
  ·rw [if_neg q, beq_false_of_ne q]
 | cons z r ih =>
  show (match x == z.1 with | true => (z.1, v) :: r | false => z :: setL x v r : Loc).lookup y = _
  by_cases q : x = z.1
  ·rw [beq_iff_eq.mpr q, zzQ, zzQ]
   by_cases w : y = z.1
   ·rw [if_pos (w.trans q.symm), beq_iff_eq.mpr w]
   ·rw [if_neg (fun u => w (u.trans q)), beq_false_of_ne w]
  ·rw [beq_false_of_ne q, zzQ, zzQ]
   by_cases w : y = z.1
   ·rw [if_neg (fun u => q (u.symm.trans w)), beq_iff_eq.mpr w]
   ·rw [beq_false_of_ne w]; exact ih
theorem Nz.keepD (a : Afr C env ρ m c loc s) (n : Nz C env ρ s m' c' loc' ρ' s') : aF1 ρ s.heap s'.heap := fun b o e nm z => n.keep b o e nm fun q => by
 subst q
 exact ex1 a.there fun o' e' => z.elim a.nl.2 fun z => nomatch ((zzC (e.symm.trans e'.1)) ▸ z).symm.trans e'.2
theorem Nz.all (n : Nz C env ρ s m' c' loc' ρ' s') (b : Addr) (o : Obj) (e : s.heap.get? b = some o) : ∃ o', s'.heap.get? b = some o' := by
 by_cases q : b ∈ ρ.a
 ·exact ex1 (zzM.mp q) fun i z => n.at_.sh.there (zzL (n.grow.at_ z))
 ·by_cases w : b = env.locals
  ·exact w ▸ ex1 n.at_.there fun o e => ⟨o, e.1⟩
  ·exact ⟨o, n.keep b o e q w⟩
theorem Nz.refl (a : Afr C env ρ m c loc s) : Nz C env ρ s m c loc ρ s := ⟨a, fun _ _ e _ _ => e, Grow.refl, rfl, rfl, rfl⟩
theorem Nz.of (a : Afr C env ρ m c loc s) (n : Nx C ρ s m' c' ρ' s') : Nz C env ρ s m' c' loc ρ' s' := ⟨a.next n, fun b o e nm _ => n.keep b o e nm, n.grow, n.gens, n.drawn, n.os⟩
theorem Nz.trans (n : Nz C env ρ s m' c' loc' ρ' s') (n' : Nz C env ρ' s' m'' c'' loc'' ρ'' s'') : Nz C env ρ s m'' c'' loc'' ρ'' s'' where
 at_ := n'.at_
 keep b o e nm nl := n'.keep b o (n.keep b o e nm nl) (n.grow.out b o e nm) nl
 grow := by
  refine ⟨⟨fun x o e nm => ?_, fun x q => n'.grow.fr x (n.grow.fr x q)⟩, fun x q => (n'.grow.frn x q).elim (n.grow.frn x) fun e => .inr ?_, fun e => n'.grow.at_ (n.grow.at_ e)⟩
  ·exact ex1 (n.all x o e) fun o' e' => n'.grow.out x o' e' (n.grow.out x o e nm)
  ·cases q : s.heap.get? x with
   | none => rfl
   | some o => exact ex1 (n.all x o q) fun o' e' => nomatch e.symm.trans e'
 gens := n'.gens.trans n.gens
 drawn := n'.drawn.trans n.drawn
 os := n'.os.trans n.os
theorem aR5 {sc : Scope} {x : Str} {v : MV} {k : Loc -> Prop} {g : Prop} (e : setN sc x v loc k) (f : sc.names.lookup x = some .local -> k (setL x v loc) -> g) : g := by
 revert e
 show (match sc.names.lookup x with | some .local => k (setL x v loc) | _ => False) -> g
 cases q : sc.names.lookup x with
 | none => exact fun e => e.elim
 | some kd => cases kd <;> first | exact fun e => e.elim | exact fun e => f q e
theorem aJ3 {x : Str} {v : MV} {v' : Value} {k : Loc -> Prop} {Q : Unit -> Shared -> Prop} (O : EnvOk env) (a : Afr C env ρ m c loc s) (r : Rep C s.heap ρ v v') (e : setN env.scope x v loc k)
  (f : ∀ loc' s', k loc' -> Nz C env ρ s m c loc' ρ s' -> Q () s') : wpAny (model C.prog C.w) A (PySem.storeName env x v') Q E s := by
 refine aR5 e fun hk e => ex1 a.lo fun g l => ex1 a.there fun oL eL => ?_
 have hk' : env.kindOf x = some .local := hk
 refine wpAny_storeName_local hk l.1 (fun h' hn' hs => f _ _ e ?_) (by rw [O.kind]; rfl)
 have kk : ∀ b o, b ≠ env.locals -> s.heap.get? b = some o -> h'.get? b = some o := fun b o nb e => (hs.2 b nb).trans e
 have ks := a.sh.but eL.1 eL.2 a.n0 a.nl.1 a.nl.2 kk
 refine ⟨⟨ks.2, ⟨_, hn', fun y u e ky => ?_⟩, fun y u e ky => ?_, a.nl, a.n0⟩, fun b o e _ nl => kk b o nl e, Grow.refl, rfl, rfl, rfl⟩
 ·rw [aP8] at e
  by_cases q : y = x
  ·rw [if_pos q] at e ⊢
   exact ⟨v', rfl, zzC e ▸ Rep.mono ks.1 Grow.refl _ _ r⟩
  ·rw [if_neg q] at e ⊢
   exact ex1 (l.2 y u e ky) fun u' q => ⟨u', q.1, Rep.mono ks.1 Grow.refl _ _ q.2⟩
 ·rw [aP8] at e
  by_cases q : y = x
  ·subst q; exact ky.elim (fun z => nomatch z.symm.trans hk') fun z => nomatch z.symm.trans hk'
  ·rw [if_neg q] at e
   exact ex2 (a.ce y u e ky) fun b u' z => ex1 z.2.1 fun o w => ⟨b, u', z.1, ⟨o, kk b o (fun nb => by
    subst nb
    cases eL.1.symm.trans w.1
    have := eL.2; unfold aD0 at this; rw [w.2] at this; cases this) w.1, w.2⟩, z.2.2.1, Rep.mono ks.1 Grow.refl _ _ z.2.2.2⟩
end
structure FnF (C : Cx) (a : Addr) (fi : FnI) : Prop where
 obj : ∃ oc od osl fd, C.h₀.get? a = some ⟨oc, od, .func fd, osl⟩ /\ fd.body = .stmts fi.body /\ fd.scope = fi.scope /\ bB3 fd.params fi.params /\ fd.defaults = .none /\ fd.closure = [] /\ fd.globals = mainGlobals /\ fd.builtins = builtinsNs /\ C.h₀.CodeRec fd.code fd.qualname
 nd : fi.params.Nodup
 kinds : ∀ x ∈ fi.params, fi.scope.names.lookup x = some .local ∨ (fi.scope.names.lookup x = some .cell /\ ∀ n, ((cellsFrom n fi.scope.names []).lookup x).isSome = true)
 kind : fi.scope.kind = .function
 co : fi.scope.isCoroutine = false
 gen : fi.scope.isGenerator = false
noncomputable def cO3 (d : Nat) (A : Around) : Prop := A.handled = none /\ A.depth + 2 * d + 2 < recursionLimit /\ A.units + 20 * d + 100 < cLine
noncomputable def aN3 (d : Nat) (A : Around) : Prop := A.handled = none /\ A.depth + 2 * d + 3 < recursionLimit /\ A.units + 20 * d + 110 < cLine
structure Fns where
 at_ : Str -> Str -> Option Addr
noncomputable def Good (C : Cx) (N : Fns) (d : Nat) : Orc := fun x f args K m c => ∀ a ρ s A vals R, N.at_ x f = some a -> cO3 d A -> Sh C ρ m c s.heap -> Reps C s.heap ρ args vals ->
 Out C ρ s K (fun v s' => R (.ok (.ret v)) s') -> codeAny (model C.prog C.w) A (.call (.ref a) ⟨vals, []⟩) R s
noncomputable def Snd (C : Cx) (N : Fns) (d : Nat) (cl : Orc) : Prop := ∀ x f args K m c, Bd K -> cl x f args K m c -> c <= bigN /\ Good C N d x f args K m c
structure StaF (C : Cx) (P : PI) (N : Fns) : Prop extends StaC C P where
 fn : ∀ c f fi, P.fn c f = some fi -> ∃ a, N.at_ c f = some a /\ FnF C a fi
 glo : ∀ f a, N.at_ (V "") f = some a -> nsIn C.K mainGlobals f = some (some (.ref a))
 met : ∀ c f a A, N.at_ c f = some a -> C.clsA c = some A -> findIn C.K (.ref A) f = some (some (.ref a))
 isf : ∀ c f a, N.at_ c f = some a -> typeIn C.K (.ref a) = some (.type "function") /\ keepIn C.K (.ref a) = true
 clsG : ∀ c b, P.cls c = some b -> ∃ A, C.clsA c = some A /\ nsIn C.K mainGlobals c = some (some (.ref A)) /\ keepIn C.K (.ref A) = true /\
  (if b then ∃ fI, N.at_ c (V "__init__") = some fI else findIn C.K (.ref A) (V "__init__") = some (some (.builtin "object.__init__")))
section
variable {C : Cx} {P : PI} {h : Heap} {ρ : Rho} {m : Mem} {c : Nat} {s s' : Shared} {A : Around} {env : Env}
theorem bX6 {kf : Str -> Option NameKind} {x : Str} {ns : List Str} : ∀ {vs : List Value} {f : Str -> Option Value}, x ∉ ns -> bindL kf (ns.zip vs) f x = f x := by
 induction ns with
 | nil => exact fun _ => rfl
 | cons a ns ih =>
  intro vs f q
  cases vs with
  | nil => rfl
  | cons v vs =>
   rw [List.zip_cons_cons]; unfold bindL
   rw [ih fun z => q (.tail _ z)]
   split
   ·exact if_neg fun (z : x = a) => q (z ▸ .head _)
   ·rfl
theorem bM {kf : Str -> Option NameKind} {x : Str} {ns : List Str} : ∀ {vs : List Value} {f : Str -> Option Value}, x ∉ ns -> bindC kf (ns.zip vs) f x = f x := by
 induction ns with
 | nil => exact fun _ => rfl
 | cons a ns ih =>
  intro vs f q
  cases vs with
  | nil => rfl
  | cons v vs =>
   rw [List.zip_cons_cons]; unfold bindC
   rw [ih fun z => q (.tail _ z)]
   split
   ·rfl
   ·exact if_neg fun (z : x = a) => q (z ▸ .head _)
theorem cF1 {kf : Str -> Option NameKind} {x : Str} {v : MV} (k : kf x = some .local) {ns : List Str} : ∀ {as : List MV} {vs : List Value} {f : Str -> Option Value}, ns.Nodup -> Reps C h ρ as vs -> (ns.zip as).lookup x = some v -> ∃ v', bindL kf (ns.zip vs) f x = some v' /\ Rep C h ρ v v' := by
 induction ns with
 | nil => exact fun _ _ e => nomatch e
 | cons a ns ih =>
  intro as vs f nd r e
  cases as with
  | nil => exact nomatch e
  | cons u as =>
   obtain ⟨w, vs', rfl, r1, r2⟩ := r
   rw [List.nodup_cons] at nd
   rw [List.zip_cons_cons, zzQ] at e
   rw [List.zip_cons_cons]; unfold bindL
   by_cases q : x = a
   ·subst q
    rw [beq_self_eq_true] at e
    rw [bX6 nd.1, if_pos k]
    exact ⟨w, if_pos rfl, zzC e ▸ r1⟩
   ·rw [beq_false_of_ne q] at e
    exact ih nd.2 r2 e
theorem bZ9 {kf : Str -> Option NameKind} {x : Str} {v : MV} (k : kf x ≠ some .local) {ns : List Str} : ∀ {as : List MV} {vs : List Value} {f : Str -> Option Value}, ns.Nodup -> Reps C h ρ as vs -> (ns.zip as).lookup x = some v -> ∃ v', bindC kf (ns.zip vs) f x = some v' /\ Rep C h ρ v v' := by
 induction ns with
 | nil => exact fun _ _ e => nomatch e
 | cons a ns ih =>
  intro as vs f nd r e
  cases as with
  | nil => exact nomatch e
  | cons u as =>
   obtain ⟨w, vs', rfl, r1, r2⟩ := r
   rw [List.nodup_cons] at nd
   rw [List.zip_cons_cons, zzQ] at e
   rw [List.zip_cons_cons]; unfold bindC
   by_cases q : x = a
   ·subst q
    rw [beq_self_eq_true] at e
    rw [bM nd.1, if_neg k]
    exact ⟨w, if_pos rfl, zzC e ▸ r1⟩
   ·rw [beq_false_of_ne q] at e
    exact ih nd.2 r2 e
theorem aQ9 {x : Str} {v : MV} {ns : List Str} : ∀ {as : List MV}, (ns.zip as).lookup x = some v -> x ∈ ns := by
 induction ns with
 | nil => exact fun e => nomatch e
 | cons a ns ih =>
  intro as e
  cases as with
  | nil => exact nomatch e
  | cons u as =>
   rw [List.zip_cons_cons, zzQ] at e
   by_cases q : x = a
   ·exact q ▸ .head _
   ·rw [beq_false_of_ne q] at e
    exact .tail _ (ih e)
theorem cE0 {ns : List Str} : ∀ {vs : List Value} {x : Str × Value}, x ∈ ns.zip vs -> x.1 ∈ ns := by
 induction ns with
 | nil => exact fun h => nomatch h
 | cons a ns ih =>
  intro vs x h
  cases vs with
  | nil => exact nomatch h
  | cons v vs =>
   rw [List.zip_cons_cons] at h
   exact (List.mem_cons.mp h).elim (fun q => q ▸ .head _) fun h => .tail _ (ih h)
theorem CellOk.not_cell {a : Addr} {v : Option Value} {o : MO} (r : CellOk C h ρ a c o) (q : h.IsCell a v) : False := by
 obtain ⟨x, e1, e2⟩ := q
 cases o with
 | dict l => exact ex1 r.1.is fun o r => ex2 r.2.2.2 fun en n z => by cases e1.symm.trans r.1; rw [z] at e2; cases e2
 | _ => exact ex2 r fun vs n r => by cases e1.symm.trans r.1; cases e2
theorem bH0 {a : Addr} {fi : FnI} {args : List MV} {vals : List Value} {R : Result -> Shared -> Prop} (S : Sta C P) (F : FnF C a fi) (H : Sh C ρ m c s.heap) (r : Reps C s.heap ρ args vals) (hl : args.length = fi.params.length) (hroom : A.depth < recursionLimit)
  (q : ∀ env s1 (E' : Value -> Shared -> Prop), EnvOk env -> env.scope = fi.scope -> Afr C env ρ m c (fi.params.zip args) s1 -> (∀ b o, s.heap.get? b = some o -> s1.heap.get? b = some o) -> s.heap.get? env.locals = none -> s1.gens = s.gens -> s1.drawn = s.drawn -> s1.os = s.os ->
   wpAny (model C.prog C.w) (A.deeper env) (execs fi.body env) (fun f s' => R (.ok (.ret (match f with | .ret v => v | _ => .none))) s') E' s1) :
  codeAny (model C.prog C.w) A (.call (.ref a) ⟨vals, []⟩) R s := by
 obtain ⟨oc, od, osl, fd, ho, hb, hs, hp, hd, hc, hg, hbl, hcr⟩ := F.obj
 refine codeAny_call_cells (fd := fd) (body := fi.body) hroom (H.keep0 _ _ ho) rfl (S.top.nolimit.keeps H.keep0) (hcr.keeps H.keep0) hb (aY8 hp hd F.nd (hl.symm.trans r.length.symm)) hc (fun x hx => ?_) (fun s1 X => ?_) (by rw [hs]; exact F.co) (by rw [hs]; exact F.gen) (by rw [hs]; exact F.kind)
 ·rw [hs]
  exact (F.kinds x.1 (cE0 hx)).imp id fun q => ⟨q.1, q.2 _⟩
 ·obtain ⟨h1, tk, hs1⟩ := X.toInCall.same
  have hsc : (callEnvC fd s.heap.objs.size a).scope = fi.scope := hs
  have hL : s.heap.get? s.heap.objs.size = none := aB2 _
  have hk := X.toInCall.keep
  have hr1 : Reps C s1.heap ρ args vals := Reps.mono (Keep.all hk).d Grow.refl _ _ r
  have Hk := H.ext (nR c) hk
  refine q _ s1 _ ⟨(congrArg (·.kind) hs).trans F.kind, hg, hbl⟩ hsc ⟨Hk, ⟨_, X.toInCall.ns, fun x v e k => cF1 k F.nd hr1 e⟩, fun x v e k => ?_, ⟨aB9 H hL, fun z => ex1 (H.froz _ z).2.2 fun o e => nomatch e.symm.trans hL⟩, H.new0 hL⟩ hk hL (by rw [hs1]) (by rw [hs1]) (by rw [hs1])
  have hkf : (callEnvC fd s.heap.objs.size a).kindOf x = fi.scope.names.lookup x := congrArg (·.names.lookup x) hsc
  rcases F.kinds x (aQ9 e) with w | ⟨w, z⟩
  ·exact k.elim (fun k => nomatch (hkf.trans w).symm.trans k) fun k => nomatch (hkf.trans w).symm.trans k
  ·refine ex1 (Option.isSome_iff_exists.mp (show ((cellsFrom (s.heap.objs.size + 1) fd.scope.names []).lookup x).isSome = true by rw [hs]; exact z _)) fun b hb => ?_
   have ic := X.cell x b hb
   refine ex1 (bZ9 (kf := (callEnvC fd s.heap.objs.size a).kindOf) (f := fun _ => none) (fun y => nomatch (hkf.trans w).symm.trans y) F.nd hr1 e) fun v' y => ?_
   rw [y.1] at ic
   exact ⟨b, v', hb, ic, fun qc => ex1 (zzM.mp qc) fun i ei => (Hk.cell i b _ ei (zzT (Hk.lt ei))).not_cell ic, y.2⟩
end
structure Sub (n : Nat) (ρ ρ' : Rho) : Prop where
 at_ : ∀ {i a}, i < n -> ρ.a[i]? = some a -> ρ'.a[i]? = some a
 out : ∀ a, a ∉ ρ.a -> a ∉ ρ'.a
 fr : ∀ a, a ∈ ρ.f -> a ∈ ρ'.f
section
variable {C : Cx} {h : Heap} {ρ ρ' : Rho} {m m' : Mem} {c c' n : Nat} {s s' : Shared} {A : Around} {K : Kt MV} {Q : Value -> Shared -> Prop}
theorem Sub.less (g : Sub n ρ ρ') : Less ρ ρ' h := ⟨fun a _ _ => g.out a, g.fr⟩
theorem aD5 : aF1 ρ h h := fun _ _ e _ _ => e
theorem RepP.sub (g : Sub n ρ ρ') {x : PV} {v : Value} (r : RepP C h ρ x v) : RepP C h ρ' x v := RepP.mono aD5 g.less x v r
theorem RepPs.sub (g : Sub n ρ ρ') {x : List PV} {v : List Value} (r : RepPs C h ρ x v) : RepPs C h ρ' x v := RepPs.mono aD5 g.less x v r
theorem Rep.sub (g : Sub n ρ ρ') {x : MV} {v : Value} (k : okO n x = true) (r : Rep C h ρ x v) : Rep C h ρ' x v := by
 cases x with
 | p x => exact RepP.sub g r
 | obj i => exact ex1 r fun a r => ⟨a, g.at_ (zzU k) r.1, r.2⟩
 | inst i cl => exact ex3 r fun x dx A r => ⟨x, dx, A, r.1, g.at_ (zzU k) r.2.1, r.2.2.1, r.2.2.2.1, g.out _ r.2.2.2.2⟩
 | glob s => exact r
 | blt s => exact r
 | rng n => exact ex2 r fun a t1 r => ex2 r fun t2 t3 r => ⟨a, t1, t2, t3, r.1, r.2.1, g.out _ r.2.2.1, r.2.2.2⟩
 | frz l => exact ex2 r fun a vs r => ⟨a, vs, r.1, r.2.1, g.out _ r.2.2.1, r.2.2.2.1, r.2.2.2.2.sub g⟩
 | any => exact r
theorem Reps.sub (g : Sub n ρ ρ') {l : List MV} : ∀ {vs : List Value}, okOs n l = true -> Reps C h ρ l vs -> Reps C h ρ' l vs := by
 induction l with
 | nil => exact fun _ r => r
 | cons x l ih => exact fun k r => aA k fun k1 k2 => ex2 r fun v r' r => ⟨v, r', r.1, r.2.1.sub g k1, ih k2 r.2.2⟩
theorem Ents.sub (g : Sub n ρ ρ') {l : List (Str × MV)} : ∀ {es}, okOs n (l.map (·.2)) = true -> Ents C h ρ l es -> Ents C h ρ' l es := by
 induction l with
 | nil => exact fun _ r => r
 | cons x l ih => exact fun k r => aA k fun k1 k2 => ex2 r fun v r' r => ⟨v, r', r.1, r.2.1, r.2.2.1.sub g k1, ih k2 r.2.2.2⟩
theorem PairK.sub (g : Sub n ρ ρ') {l : List (PV × MV)} : ∀ {es}, okOs n (l.map (·.2)) = true -> PairK C h ρ l es -> PairK C h ρ' l es := by
 induction l with
 | nil => exact fun _ r => r
 | cons x l ih => exact fun k r => aA k fun k1 k2 => ex2 r fun v r' r => ⟨v, r', r.1, r.2.1.sub g k1, ih k2 r.2.2⟩
theorem PairT.sub (g : Sub n ρ ρ') {l : List (PV × MV)} : ∀ {es}, okOs n (l.map (·.2)) = true -> PairT C h ρ l es -> PairT C h ρ' l es := by
 induction l with
 | nil => exact fun _ r => r
 | cons x l ih => exact fun k r => aA k fun k1 k2 => ex3 r fun a v r' r => ⟨a, v, r', r.1, RepP.sub g r.2.1, r.2.2.1.sub g k1, ih k2 r.2.2.2⟩
theorem CellOk.sub (g : Sub n ρ ρ') {a : Addr} {o : MO} (k : okC n o = true) (r : CellOk C h ρ a c o) : CellOk C h ρ' a c o := by
 cases o with
 | pl l => exact ex2 r fun vs n r => ⟨vs, n, r.1, r.2.1.sub g, r.2.2⟩
 | list l => exact ex2 r fun vs n r => ⟨vs, n, r.1, r.2.1.sub g k, r.2.2⟩
 | attrs l => exact ex2 r fun vs n r => ⟨vs, n, r.1, r.2.sub g k⟩
 | dict l => exact ⟨⟨r.1.is, fun n hn q => ex1 (r.1.kk n hn q) fun kvs r => ⟨kvs, r.1, r.2.sub g k⟩, fun q => ex1 (r.1.tk q) fun xs r => ⟨xs, r.1, r.2.sub g k⟩⟩, r.2⟩
theorem bW2 {k : Nat} : ∀ {m : Mem} {i : Nat} {o : MO}, okCs n k m = true -> i < k -> m[i]? = some o -> okC n o = true := by
 induction k with
 | zero => exact fun _ q => absurd q (Nat.not_lt_zero _)
 | succ k ih =>
  intro m i o q hi e
  cases m with
  | nil => exact nomatch e
  | cons x m => exact aA q fun q1 q2 => (by
    cases i with
    | zero => exact zzC e ▸ q1
    | succ i => exact ih q2 (Nat.lt_of_succ_lt_succ hi) e)
theorem aE5 {l : List Addr} {a : Addr} (q : a ∈ l.take n) : a ∈ l := List.mem_of_mem_take q
theorem aH {α : Type} {l : List α} {i : Nat} {x : α} {g : Prop} (e : (l.take n)[i]? = some x) (f : i < n -> l[i]? = some x -> g) : g := by
 by_cases q : i < n
 ·exact f q ((List.getElem?_take_of_lt q).symm.trans e)
 ·exact nomatch (List.getElem?_eq_none (nT (List.length_take_le _ _) (Nat.le_of_not_lt q))).symm.trans e
theorem Sh.sub (H : Sh C ρ m c h) (k : bB4 n m = true) (hn : n <= m.length) (F : List Addr) (hF : ∀ a ∈ F, a ∈ ρ.f ∨ (a ∈ ρ.a /\ a ∉ ρ.a.take n)) (hf : ∀ a, a ∈ ρ.f -> a ∈ F) : Sub n ρ ⟨ρ.a.take n, F⟩ /\ Sh C ⟨ρ.a.take n, F⟩ (m.take n) c h := by
 have g : Sub n ρ ⟨ρ.a.take n, F⟩ := ⟨fun hi e => (List.getElem?_take_of_lt hi).trans e, fun a q z => q (aE5 z), hf⟩
 refine ⟨g, by show (ρ.a.take n).length = _; rw [List.length_take, List.length_take, H.len], H.nodup.sublist (List.take_sublist n _), fun a q => H.fresh a (aE5 q), fun a q => (hF a q).elim (fun q => ⟨(H.froz a q).1, fun z => (H.froz a q).2.1 (aE5 z), (H.froz a q).2.2⟩) fun q => ⟨H.fresh a q.1, q.2, H.there q.1⟩, H.keep0, fun i a o e1 e2 => ?_⟩
 exact aH e1 fun hi e1 => aH e2 fun _ e2 => (H.cell i a o e1 e2).sub g (bW2 k hi e2)
theorem bD {v : MV} {v' : Value} (H : Sh C ρ m c s.heap) (nx : Nx C ρ s m' c' ρ' s') (r : Rep C s'.heap ρ' v v') (e : bJ9 m.length v K m' c') (k : Out C ρ s K Q) : Q v' s' := by
 have hle : m.length <= m'.length := by
  cases q : m.length with
  | zero => exact zzN _
  | succ j => exact nx.sh.lt (nx.grow.at_ (zzT (l := ρ.a) (i := j) (H.len ▸ q ▸ zzb j)))
 have gl : ∀ {l : List Addr}, (∀ a ∈ l, a ∈ ρ'.a) -> (∀ {i a}, ρ.a[i]? = some a -> l[i]? = some a) -> Grow ρ ⟨l, ρ'.f⟩ s.heap := fun hl ha => ⟨⟨fun a o e n z => nx.grow.out a o e n (hl a z), nx.grow.fr⟩, nx.grow.frn, ha⟩
 have at1 : ∀ {i a}, ρ.a[i]? = some a -> (ρ'.a.take m.length)[i]? = some a := fun e => (List.getElem?_take_of_lt (H.lt e)).trans (nx.grow.at_ e)
 revert e
 show (match Nat.beq m'.length m.length with | true => K v m' c' | false => match bB4 m.length m' with | false => K v m' c' | true => match okO m.length v with | true => K v (m'.take m.length) c' | false => onO v fun j => atP m'[j]? fun l => K (.obj m.length) (m'.take m.length ++ [.pl l]) c') -> _
 cases Nat.beq m'.length m.length with
 | true => exact fun e => k _ _ _ _ _ _ e nx r
 | false =>
  cases hc : bB4 m.length m' with
  | false => exact fun e => k _ _ _ _ _ _ e nx r
  | true =>
   have hs := nx.sh.sub hc hle ρ'.f (fun a q => .inl q) fun a q => q
   cases hv : okO m.length v with
   | true => exact fun e => k _ _ _ _ _ _ e ⟨hs.2, nx.keep, gl (fun a => aE5) at1, nx.gens, nx.drawn, nx.os⟩ (r.sub hs.1 hv)
   | false =>
    refine fun e => aQ4 e fun j hj e => aC9 e fun l hl e9 => ?_
    subst hj
    refine ex1 r fun a r => ?_
    have hn : a ∉ ρ'.a.take m.length := fun z => ex1 (zzM.mp z) fun i ei => aH ei fun hi ei => nomatch (show Nat.blt j m.length = true from zzI (aE nx.sh.nodup ei r.1 ▸ hi)).symm.trans hv
    have len := hs.2.len
    have lm : (m'.take m.length).length = m.length := by rw [List.length_take]; exact Nat.min_eq_left hle
    have g2 : Sub m.length ρ' ⟨ρ'.a.take m.length ++ [a], ρ'.f⟩ := ⟨fun hi e => (zzH (by rw [show (ρ'.a.take m.length).length = _ from len, lm]; exact hi)).trans ((List.getElem?_take_of_lt hi).trans e), fun b q z => (zzP.mp z).elim (fun z => q (aE5 z)) fun z => q (zzJ.mp z ▸ zzL r.1), fun _ q => q⟩
    have cell := ex2 (nx.sh.cell j a _ r.1 hl) fun vs n z => (⟨vs, n, z.1, z.2.1.sub g2, z.2.2⟩ : CellOk C s'.heap ⟨ρ'.a.take m.length ++ [a], ρ'.f⟩ a c' (.pl l))
    refine k (.obj m.length) _ ⟨ρ'.a.take m.length ++ [a], ρ'.f⟩ _ _ _ e9 ⟨⟨?_, ?_, ?_, ?_, nx.sh.keep0, ?_⟩, nx.keep, gl (fun b q => (zzP.mp q).elim aE5 fun q => zzJ.mp q ▸ zzL r.1) fun ei => (zzH (zzA.mp (at1 ei)).1).trans (at1 ei), nx.gens, nx.drawn, nx.os⟩ ⟨a, aF6 (len.trans lm), r.2⟩
    ·show (ρ'.a.take m.length ++ [a]).length = _
     rw [zzB, zzB, show (ρ'.a.take m.length).length = _ from len]; rfl
    ·exact List.nodup_append.mpr ⟨hs.2.nodup, List.pairwise_singleton _ _, fun b hb d hd q => hn (zzJ.mp hd ▸ q ▸ hb)⟩
    ·exact fun b q => (zzP.mp q).elim (hs.2.fresh b) fun q => zzJ.mp q ▸ nx.sh.fresh a (zzL r.1)
    ·exact fun b q => ⟨(hs.2.froz b q).1, fun z => (zzP.mp z).elim (hs.2.froz b q).2.1 fun z => (nx.sh.froz b q).2.1 (zzJ.mp z ▸ zzL r.1), (hs.2.froz b q).2.2⟩
    ·intro i b y e1 e2
     refine aR4 e1 (fun e1 => aR4 e2 (fun e2 => aH e1 fun hi e1 => aH e2 fun _ e2 => (nx.sh.cell i b y e1 e2).sub g2 (bW2 hc hi e2)) fun q _ => ?_) fun q qb => aR4 e2 (fun e2 => ?_) fun _ qo => qb ▸ qo ▸ cell
     ·exact aH e1 fun hi _ => absurd hi (by rw [q, lm]; exact Nat.lt_irrefl _)
     ·exact aH e2 fun hi _ => absurd hi (by rw [q, show (ρ'.a.take m.length).length = _ from len, lm]; exact Nat.lt_irrefl _)
end
noncomputable def RepC (C : Cx) (N : Fns) (h : Heap) (ρ : Rho) : Callee -> Value -> List Value -> Prop
 | .fn c f pre, v, first => ∃ a, N.at_ c f = some a /\ v = .ref a /\ Reps C h ρ pre first
 | .cls c, v, first => ∃ A, C.clsA c = some A /\ nsIn C.K mainGlobals c = some (some (.ref A)) /\ v = .ref A /\ first = []
 | .blt s, v, first => v = bltV s /\ first = []
 | .lappend i, v, first => ∃ a, ρ.a[i]? = some a /\ v = .builtin "list.append" /\ first = [.ref a]
 | .lextend i, v, first => ∃ a, ρ.a[i]? = some a /\ v = .builtin "list.extend" /\ first = [.ref a]
 | .lpop i, v, first => ∃ a, ρ.a[i]? = some a /\ v = .builtin "list.pop" /\ first = [.ref a]
 | .dget i, v, first => ∃ a, ρ.a[i]? = some a /\ v = .builtin "dict.get" /\ first = [.ref a]
 | .sget s, v, first => ∃ a, Rep C h ρ (.glob s) (.ref a) /\ v = .builtin "dict.get" /\ first = [.ref a]
section
variable {C : Cx} {N : Fns} {h : Heap} {ρ ρ' : Rho} {m m' : Mem} {c c' n d : Nat} {s s' : Shared} {A : Around} {E : Value -> Shared -> Prop} {K : Kt MV} {Q : Value -> Shared -> Prop}
theorem RepC.next (nx : Nx C ρ s m' c' ρ' s') {g : Callee} {v : Value} {f : List Value} (r : RepC C N s.heap ρ g v f) : RepC C N s'.heap ρ' g v f := by
 cases g with
 | fn => exact ex1 r fun a r => ⟨a, r.1, r.2.1, nx.reps r.2.2⟩
 | cls => exact r
 | blt => exact r
 | sget => exact r
 | _ => exact ex1 r fun a r => ⟨a, nx.grow.at_ r.1, r.2⟩
theorem bR9 {x : MV} {vals : List Value} {g : Prop} (r : Reps C h ρ [x] vals) (f : ∀ v, vals = [v] -> Rep C h ρ x v -> g) : g := ex2 r fun v r' r => f v (r.1.trans (congrArg _ (show r' = [] from r.2.2))) r.2.1
theorem aY7 {l : List PV} {v : Value} {g : Prop} (r : RepP C h ρ (.tup l) v) (f : ∀ a vs n, v = .ref a -> h.get? a = some (aW4 vs.toArray n) -> l.length <= bigN -> RepPs C h ρ l vs -> g) : g := ex3 r fun a vs n r => f a vs n r.1 r.2.1 r.2.2.2.1 r.2.2.2.2
theorem dH4 {a : MV} {a' : Value} (H : Sh C ρ m c s.heap) (ra : Rep C s.heap ρ a a') (e : aP a K m c) (hK : Bd K) (k : Out C ρ s K Q) : wpAny (model C.prog C.w) A (call (.builtin "len") [a']) Q E s := by
 have lst : ∀ {x : Addr} {vs : List Value} {n : Nat} {j : Nat}, a' = .ref x -> s.heap.get? x = some (listOf vs.toArray n) -> vs.length = j -> j <= c -> K (i_ j) m c -> wpAny (model C.prog C.w) A (call (.builtin "len") [a']) Q E s := fun ea hx hj hc e => by
  subst ea hj
  exact PyProof.Rows.len_list (aB6 hx) (by rw [zzV]; have := nT hc (hK _ _ _ e); unfold bigN at this; lia) (by rw [zzV]; exact aO9 H k e _)
 cases a with
 | p x => cases x with
  | tup l =>
   exact aY7 ra fun x vs n ea hx hl r => by
    subst ea
    exact PyProof.Rows.len_tuple (items := vs.toArray) ⟨_, hx, rfl, n, rfl⟩ (by rw [zzV, r.length]; unfold bigN at hl; lia) (by rw [zzV, r.length]; exact aO9 H k e _)
  | _ => exact e.elim
 | obj i =>
  revert e
  show (match m[i]? with | some (.pl l) => K (i_ l.length) m c | some (.list l) => K (i_ l.length) m c | _ => False) -> _
  cases hm : m[i]? with
  | none => exact fun e => e.elim
  | some o => cases o with
   | pl l => exact fun e => ex1 ra fun x ra => ex2 (H.cell i x _ ra.1 hm) fun vs n q => lst ra.2 q.1 q.2.1.length q.2.2 e
   | list l => exact fun e => ex1 ra fun x ra => ex2 (H.cell i x _ ra.1 hm) fun vs n q => lst ra.2 q.1 q.2.1.length q.2.2 e
   | _ => exact fun e => e.elim
 | _ => exact e.elim
theorem cL6 {v : MV} {g : Prop} (e : tupB v K m c) (f1 : ∀ x l, x = .tup l -> v = .p x -> K (.p x) m c -> g) (f2 : ∀ i l, v = .obj i -> m[i]? = some (.pl l) -> K (.p (.tup l)) m c -> g) : g := by
 cases v with
 | p x => exact aG3 e fun l hl e => f1 x l hl rfl e
 | obj i => exact aC9 e fun l hl e => f2 i l rfl hl e
 | _ => exact e.elim
theorem dI0 {t : String} {v : MV} {v' : Value} (H : Sh C ρ m c s.heap) (r : Rep C s.heap ρ v v') (e : aX8 t v K m c) (hK : Bd K) (k : Out C ρ s K Q) : wpAny (model C.prog C.w) A (call (bltV t) [v']) Q E s := by
 unfold aX8 at e
 split at e
 ·exact dH4 H r e hK k
 ·refine aA5 e fun x hx e => aE1 e fun i hi e => aU2 e fun n hn hl e9 => ?_
  subst hx hi hn
  refine ex1 r fun u ea => ?_
  subst ea
  exact call_range_1 (k (.rng n) _ ρ _ _ _ e9 (Nx.ext H _ (nR c) (aA4 _ _)) ⟨_, _, _, _, rfl, IsRange.new .., aB9 H (aB2 _), hl⟩)
 ·refine cL6 e (fun x l hx hv e9 => ?_) fun i l hi hl e9 => ?_
  ·subst hv hx
   exact aY7 r fun y vs n ea hy _ _ => by subst ea; exact call_tuple_same (items := vs.toArray) ⟨_, hy, rfl, n, rfl⟩ (k _ _ _ _ _ _ e9 (Nx.refl H) r)
  subst hi
  refine aI4 H r hl fun x vs n ex ea hx r9 lc => ?_
  subst ea
  have hb := nT lc (hK _ _ _ e9)
  exact call_tuple_list (aB6 hx) (fun h1 hk1 => k (.p (.tup l)) _ ρ _ _ _ e9 (Nx.ext H _ (nR c) fun b o e => aA4 _ _ b o (hk1 b o e)) (bP9 (H.ext (nR c) hk1) (r9.mono (Keep.all hk1).d Less.refl) hb)) (aL0 r9 hb)
 ·refine aA5 e fun x hx e => aG3 e fun l hl e9 => ?_
  subst hx hl
  refine aY7 r fun x vs n ea hx hl r9 => ?_
  subst ea
  exact call_list_seq (T := "tuple") x (.inr rfl) hx rfl rfl (fun h1 q hk hD => k (.obj m.length) _ _ _ _ _ e9 (Nx.new (o := .pl l) (a := s.heap.objs.size) H _ (nA _ _) (aB2 _) hk ⟨vs, q, hD, r9.mono (Keep.all hk).d (Grow.one (aB2 _)).toLess, zzE _ _⟩) ⟨_, aF6 H.len, rfl⟩) (aL0 r9 hl)
 ·exact e.elim
theorem cC7 {D : Addr} {cn : Str} (H : Sh C ρ m c s.heap) (hc : C.clsA cn = some D) :
  Nx C ρ s (m ++ [.attrs []]) c (ρ.new s.heap.objs.size) { s with heap := (s.heap.push emptyDict).push (instObj D s.heap.objs.size) } /\ Rep C ((s.heap.push emptyDict).push (instObj D s.heap.objs.size)) (ρ.new s.heap.objs.size) (.inst m.length cn) (.ref (s.heap.objs.size + 1)) := by
 have hk : ∀ b o, s.heap.get? b = some o -> ((s.heap.push emptyDict).push (instObj D s.heap.objs.size)).get? b = some o := fun b o e => aA4 _ _ _ _ (aA4 _ _ _ _ e)
 have hx : ((s.heap.push emptyDict).push (instObj D s.heap.objs.size)).get? (s.heap.objs.size + 1) = some (instObj D s.heap.objs.size) := by
  have := Heap.get?_push_size (h := s.heap.push emptyDict) (o := instObj D s.heap.objs.size) rfl
  rwa [Heap.size_push] at this
 have hn : s.heap.get? (s.heap.objs.size + 1) = none := by unfold Heap.get?; rw [Array.getElem?_eq_none (by lia)]
 exact ⟨Nx.new H s.toks (nR c) (aB2 _) hk ⟨[], 0, aA4 _ _ _ _ (Heap.get?_push_size _ rfl), rfl⟩, ⟨_, _, D, rfl, aF6 H.len, hc, hx, fun q => (zzP.mp q).elim (aB9 H hn) fun q => Nat.succ_ne_self _ (zzJ.mp q)⟩⟩
theorem dK5 {l : List (Str × MV)} : ∀ {r : List PV} {es : List DictEntry}, allA l = some r -> Ents C h ρ l es -> ∃ vs, FinE (l.map (·.1)) vs es /\ RepPs C h ρ r vs := by
 induction l with
 | nil => exact fun e x => zzC e ▸ ⟨[], x, rfl⟩
 | cons y l ih =>
  intro r es e x
  obtain ⟨y1, y2⟩ := y
  cases y2 with
  | p v =>
   revert e
   show (match allA l with | some l => some (v :: l) | none => none) = some r -> _
   cases q : allA l with
   | none => exact fun e => nomatch e
   | some r' => exact fun e => ex2 x fun z es' x => ex1 (ih q x.2.2.2) fun vs w => zzC e ▸ ⟨z.val :: vs, ⟨z, es', x.1, x.2.1, rfl, w.1⟩, ⟨z.val, vs, rfl, x.2.2.1, w.2⟩⟩
  | _ => exact nomatch e
theorem bN6 {cn : Str} {self : Value} (H : Sh C ρ m c s.heap) (nx : Nx C ρ s m' c' ρ' s') (r : Rep C s'.heap ρ' (.inst m.length cn) self) (e : bE1 m.length cn K m' c') (k : Out C ρ s K Q) : Q self s' := by
 refine aA0 e fun hl e => aA0 e fun hc e => aS8 e fun l hm e => aB e fun q hq e9 => ex3 r fun x dx D r => ?_
 have hlen := zzX hl
 have hn : dx ∉ ρ'.a.take m.length := fun z => ex1 (zzM.mp z) fun i ei => aH ei fun hi ei => absurd hi (aE nx.sh.nodup ei r.2.1 ▸ Nat.lt_irrefl _)
 have md : dx ∈ ρ'.a := zzL r.2.1
 have nd : s.heap.get? dx = none := by
  cases q : s.heap.get? dx with
  | none => rfl
  | some o =>
   by_cases z : dx ∈ ρ.a
   ·exact ex1 (zzM.mp z) fun i ei => absurd (H.lt ei) (aE nx.sh.nodup (nx.grow.at_ ei) r.2.1 ▸ Nat.lt_irrefl _)
   ·exact absurd md (nx.grow.out dx o q z)
 have hs := nx.sh.sub hc (hlen ▸ Nat.le_succ _) (ρ'.f ++ [dx]) (fun a q => (zzP.mp q).elim .inl fun q => .inr (zzJ.mp q ▸ ⟨md, hn⟩)) fun a q => List.mem_append_left _ q
 refine ex2 (nx.sh.cell _ dx _ r.2.1 hm) fun es j en => ex1 (dK5 hq en.2) fun vs w => ?_
 exact k _ _ _ _ _ _ e9 ⟨hs.2, nx.keep, ⟨⟨fun a o e n z => nx.grow.out a o e n (aE5 z), fun a q => List.mem_append_left _ (nx.grow.fr a q)⟩, fun a q => (zzP.mp q).elim (nx.grow.frn a) fun q => .inr (zzJ.mp q ▸ nd), fun e => (List.getElem?_take_of_lt (H.lt e)).trans (nx.grow.at_ e)⟩, nx.gens, nx.drawn, nx.os⟩
  ⟨x, dx, D, es, j, vs, r.1, r.2.2.1, r.2.2.2.1, fun z => r.2.2.2.2 (aE5 z), en.1, hn, List.mem_append_right _ (.head _), w.1, RepPs.sub hs.1 w.2⟩
end
section
variable {C : Cx} {P : PI} {h h' : Heap} {ρ : Rho} {m : Mem} {c c' n d : Nat} {s : Shared} {A : Around} {E : Value -> Shared -> Prop} {K : Kt MV} {Q : Value -> Shared -> Prop} {cl : Orc} {fz : Str -> Bool}
theorem bQ8 {a : Addr} {es : List (PV × MV)} {k : PV} {dv : MV} {k' d' : Value} (two : Bool) (hu : A.units + 64 < cLine) (H : Sh C ρ m c s.heap) (hs : (a == sysModules) = false) (D : DictOk C s.heap ρ a es) (rk : RepP C s.heap ρ k k') (rd : Rep C s.heap ρ dv d') (hn : two = false -> d' = .none) (hk : aA8 k es = true)
  (e : K ((aA9 k es).getD dv) m c) (q : Out C ρ s K Q) : wpAny (model C.prog C.w) A (call (.builtin "dict.get") (.ref a :: k' :: cond two [d'] [])) Q E s := by
 have hT : s.TypeIs (.ref a) "dict" := ex1 D.is fun o r => ⟨o, r.1, r.2.1⟩
 refine D.at rk hk (fun n kvs hn' _ hi hd p o => ?_) fun b xs _ ea hi hd p o => ?_
 ·cases two with
  | true => exact call_meetsIn PySem.F.slot_dict_get hT PySem.F.entry_dict_get (PySem.F.args_dict_get_3 _ _ _) (meets_dict_get_default (aC3 C n) (k := k) a hi hs d') ⟨_, hd.mapOf, aE2 H q e (o.getD rd) _⟩
  | false =>
   cases hn rfl
   exact call_meetsIn PySem.F.slot_dict_get hT PySem.F.entry_dict_get (PySem.F.args_dict_get_2 _ _) (meets_dict_get (aC3 C n) (k := k) a hi hs) ⟨_, hd.mapOf, aE2 H q e (o.getD rd) _⟩
 ·subst ea
  have room : A.in1.units + 16 < cLine := by show A.units + 1 + 16 < cLine; lia
  cases two with
  | true => exact call_meetsIn PySem.F.slot_dict_get hT PySem.F.entry_dict_get (PySem.F.args_dict_get_3 _ _ _) (meetsH_dict_get_default (aE4 C) a b hs d') ⟨room, k, xs, hi, hd, aE2 H q e (o.getD rd) _⟩
  | false =>
   cases hn rfl
   exact call_meetsIn PySem.F.slot_dict_get hT PySem.F.entry_dict_get (PySem.F.args_dict_get_2 _ _) (meetsH_dict_get (aE4 C) a b hs) ⟨room, k, xs, hi, hd, aE2 H q e (o.getD rd) _⟩
theorem bF1 {a : Addr} {es : List (PV × MV)} {vs : List MV} {vals : List Value} (hu : A.units + 64 < cLine) (H : Sh C ρ m c s.heap) (hs : (a == sysModules) = false) (D : DictOk C s.heap ρ a es) (r : Reps C s.heap ρ vs vals) (e : runC.dgetK es vs K m c) (q : Out C ρ s K Q) :
  wpAny (model C.prog C.w) A (call (.builtin "dict.get") (.ref a :: vals)) Q E s := by
 cases vs with
 | nil => exact e.elim
 | cons x vs => cases vs with
  | nil => exact aA5 e fun k hk e => aA0 e fun q1 e9 => by subst hk; exact bR9 r fun v ev rv => ev ▸ bQ8 false hu H hs D rv (dv := n_) rfl (fun _ => rfl) q1 e9 q
  | cons y vs => cases vs with
   | nil => exact aA5 e fun k hk e => aA0 e fun q1 e9 => by subst hk; exact ex2 r fun v r' r => bR9 r.2.2 fun w ew rw' => (r.1.trans (congrArg (v :: ·) ew)) ▸ bQ8 true hu H hs D r.2.1 rw' (fun z => nomatch z) q1 e9 q
   | cons => exact e.elim
theorem bE2 {a : Addr} {i j : Nat} {vs : List Value} {l : List PV} {h' : Heap} (H : Sh C ρ m c s.heap) (hc : c <= c') (ea : ρ.a[i]? = some a) (hs : Heap.SameBut a s.heap h') (hd : h'.get? a = some (listOf vs.toArray j)) (r : RepPs C s.heap ρ l vs) (hl : l.length <= c') (t : Nat) :
  Nx C ρ s (m.set i (.pl l)) c' ρ { s with heap := h', toks := t } := Nx.upd (o' := .pl l) H t hc ea hs ⟨vs, j, hd, r.mono (SameBut.keep ea hs).d Less.refl, hl⟩
theorem aP6 {us vs : List Value} {n : Nat} {f : Array Value -> Array Value} (e : f us.toArray = vs.toArray) : ∃ n', Obj.mapSeq f (W.listOf us.toArray n) = W.listOf vs.toArray n' :=
 ⟨if (f us.toArray).size == us.toArray.size then n else n + 1, by rw [<- e]; rfl⟩
theorem RepPs.take {l : List PV} : ∀ {vs : List Value} (n : Nat), RepPs C h ρ l vs -> RepPs C h ρ (l.take n) (vs.take n) := by
 induction l with
 | nil => exact fun n r => by rw [show _ = [] from r, List.take_nil, List.take_nil]; rfl
 | cons x l ih =>
  intro vs n r
  obtain ⟨v, r', rfl, r1, r2⟩ := r
  cases n with
  | zero => exact rfl
  | succ n => exact ⟨v, _, rfl, r1, ih n r2⟩
theorem RepPs.up {l : List PV} : ∀ {vs : List Value}, RepPs C h ρ l vs -> Reps C h ρ (l.map .p) vs := by
 induction l with
 | nil => exact fun r => r
 | cons x l ih => exact fun r => ex2 r fun v r' r => ⟨v, r', r.1, r.2.1, ih r.2.2⟩
theorem bS3 {a : Addr} {i : Nat} {vs : List MV} {vals : List Value} (H : Sh C ρ m c s.heap) (ea : ρ.a[i]? = some a) (r : Reps C s.heap ρ vs vals) (e0 : runC P fz cl (.lappend i) vs K m c) (hK : Bd K) (k : Out C ρ s K Q) : wpAny (model C.prog C.w) A (call (.builtin "list.append") ([.ref a] ++ vals)) Q E s := by
 refine bK e0 fun v hv e => ?_
 subst hv
 refine bR9 r fun w ew rw' => ?_
 subst ew
 have fin : ∀ {us : List Value} {n : Nat} {o : MO}, s.heap.get? a = some (listOf us.toArray n) -> us.length <= c -> (∀ h', Keep ρ s.heap h' -> h'.get? a = some (listOf (us ++ [w]).toArray (n + 1)) -> CellOk C h' ρ a (c + 1) o) -> K n_ (m.set i o) (c + 1) -> wpAny (model C.prog C.w) A (call (.builtin "list.append") ([.ref a] ++ [w])) Q E s := fun {us n o} hx hl f e9 =>
  append_at hx (fun h' hs hd => k _ _ _ _ _ _ e9 (Nx.upd H s.toks (Nat.le_succ c) ea hs (f h' (SameBut.keep ea hs) (hd.trans (by simp)))) rfl) (by rw [zzV]; exact nT (nT hl (zzc (hK _ _ _ e9))) (by decide))
 revert e
 show (match m[i]? with | some (.pl l) => appP i l v K m c | some (.list l) => K n_ (m.set i (.list (l ++ [v]))) (c + 1) | _ => False) -> _
 cases hm : m[i]? with
 | none => exact fun e => e.elim
 | some o => cases o with
  | pl l =>
   refine ex2 (H.cell i a _ ea hm) fun us n q => ?_
   have emp : ∀ {v}, Rep C s.heap ρ v w -> K n_ (m.set i (.list (l.map .p ++ [v]))) (c + 1) -> wpAny (model C.prog C.w) A (call (.builtin "list.append") ([.ref a] ++ [w])) Q E s := fun {v} rv e =>
    fin (o := .list (l.map .p ++ [v])) q.1 (q.2.1.length ▸ q.2.2) (fun h' kk hd => ⟨us ++ [w], n + 1, hd, Reps.mono kk.d Grow.refl _ _ (Reps.append (r := [v]) (us := [w]) ⟨w, [], rfl, rv, rfl⟩ q.2.1.up), by rw [zzB, zzZ]; exact zzd q.2.2⟩) e
   cases v with
   | p x => exact fun e => fin (o := .pl (l ++ [x])) q.1 (q.2.1.length ▸ q.2.2) (fun h' kk hd => ⟨us ++ [w], n + 1, hd, RepPs.mono kk.d Less.refl _ _ (RepPs.append (r := [x]) (us := [w]) ⟨w, [], rfl, rw', rfl⟩ q.2.1), by rw [zzB]; exact zzd q.2.2⟩) e
   | _ => exact emp rw'
  | list l => exact fun e => ex2 (H.cell i a _ ea hm) fun us n q => fin (o := .list (l ++ [v])) q.1 (q.2.1.length ▸ q.2.2) (fun h' kk hd => ⟨us ++ [w], n + 1, hd, Reps.mono kk.d Grow.refl _ _ (Reps.append (r := [v]) (us := [w]) ⟨w, [], rfl, rw', rfl⟩ q.2.1), by rw [zzB]; exact zzd q.2.2⟩) e
  | _ => exact fun e => e.elim
theorem bT6 {a : Addr} {i : Nat} {vs : List MV} {vals : List Value} (H : Sh C ρ m c s.heap) (ea : ρ.a[i]? = some a) (r : Reps C s.heap ρ vs vals) (e0 : runC P fz cl (.lextend i) vs K m c) (hK : Bd K) (k : Out C ρ s K Q) : wpAny (model C.prog C.w) A (call (.builtin "list.extend") ([.ref a] ++ vals)) Q E s := by
 refine bK e0 fun v hv e => aA5 e fun x hx e => aG3 e fun t ht e => aC9 e fun l hm e9 => ?_
 subst hv hx ht
 refine bR9 r fun w ew rw' => aY7 rw' fun b ts n2 eb ht _ rt => ex2 (H.cell i a _ ea hm) fun us n q => ?_
 subst ew eb
 have z1 := q.2.1.length
 have z2 := rt.length
 have hb := hK _ _ _ e9
 unfold bigN at hb
 have hs : Heap.SameBut a s.heap (s.heap.update a (Obj.mapSeq fun x => x ++ ts.toArray)) := Heap.SameBut.update ..
 have hle : us.toArray.size + ts.toArray.size <= 2000000 := by rw [zzV, zzV, z1, z2]; have := q.2.2; lia
 refine call_meets PySem.F.slot_list_extend ⟨_, q.1, rfl⟩ PySem.F.entry_list_extend (PySem.F.args_list_extend_2 _ _) (PySem.AutoSeq1.list_extend_list_tuple_0 a us.toArray n b ts.toArray n2 ?_ ?_ ?_) ⟨q.1, ht, ?_⟩
 ·unfold Builtin.List.listTooLong
  simp only [Bool.and_eq_true, not_and, decide_eq_true_eq]
  exact fun _ h9 => absurd (zzF h9 hle) (by decide)
 ·exact nT (nT (nA _ _) hle) (by decide)
 ·exact nT hle (by decide)
 ·refine ex1 (aP6 (us := us) (vs := us ++ ts) (n := n) (f := fun x => x ++ ts.toArray) (List.append_toArray _ _)) fun n' e' => ?_
  exact k _ _ _ _ _ _ e9 (bE2 H (nA _ _) ea hs ((Heap.get?_update_self (Obj.mapSeq fun x => x ++ ts.toArray) q.1 (by rfl)).trans (congrArg some e')) (RepPs.append rt q.2.1) (by rw [zzB]; exact zzS q.2.2 _) s.toks) rfl
theorem dK0 {a : Addr} {i : Nat} {vs : List MV} {vals : List Value} (H : Sh C ρ m c s.heap) (ea : ρ.a[i]? = some a) (r : Reps C s.heap ρ vs vals) (e0 : runC P fz cl (.lpop i) vs K m c) (hK : Bd K) (k : Out C ρ s K Q) : wpAny (model C.prog C.w) A (call (.builtin "list.pop") ([.ref a] ++ vals)) Q E s := by
 cases vs with
 | cons => exact (show False from e0).elim
 | nil =>
  cases (show vals = [] from r)
  refine aC9 (show atP m[i]? fun l => som l.getLast? fun x => K (.p x) (m.set i (.pl l.dropLast)) c from e0) fun l hm e => aB e fun y hy e9 => ex2 (H.cell i a _ ea hm) fun us n q => ?_
  have z1 := q.2.1.length
  have hb := nT q.2.2 (hK _ _ _ e9)
  rw [List.getLast?_eq_getElem?] at hy
  refine ex1 (q.2.1.get hy) fun y' z => ?_
  have hs : Heap.SameBut a s.heap (s.heap.update a (Obj.mapSeq fun xs => xs.eraseIdxIfInBounds (us.toArray.size - 1))) := Heap.SameBut.update ..
  have rd : RepPs C s.heap ρ l.dropLast us.dropLast := by
   rw [List.dropLast_eq_take, List.dropLast_eq_take, z1]
   exact q.2.1.take _
  have hne : us ≠ [] := fun z' => by rw [z'] at z; exact nomatch z.1
  have hk : us.toArray.size - 1 = us.dropLast.length := by rw [zzV, List.length_dropLast]
  refine ex1 (aP6 (us := us) (vs := us.dropLast) (n := n) (f := fun xs => xs.eraseIdxIfInBounds (us.toArray.size - 1)) (by
   rw [hk]
   have := kl_erase us.dropLast [] (us.getLast hne)
   rw [List.dropLast_concat_getLast hne, List.append_nil] at this
   exact this)) fun n' e' => ?_
  refine call_meets PySem.F.slot_list_pop ⟨_, q.1, rfl⟩ PySem.F.entry_list_pop (PySem.F.args_list_pop_1 _) (PySem.MeetsSeq.list_pop_last a us.toArray n y' ?_ (aL0 q.2.1 hb)) ⟨q.1, k (.p y) _ _ _ _ _ e9 (bE2 H (nR c) ea hs ((Heap.get?_update_self _ q.1 (by rfl)).trans (congrArg some e')) rd (by rw [List.length_dropLast]; exact nT (Nat.sub_le _ _) q.2.2) s.toks) (RepP.mono (SameBut.keep ea hs).d Less.refl _ _ z.2)⟩
  rw [zzV, z1]; exact cE1 z.1
end
section
variable {C : Cx} {P : PI} {N : Fns} {h : Heap} {ρ ρ' : Rho} {m m' : Mem} {c c' n d : Nat} {s s' : Shared} {A : Around} {E : Value -> Shared -> Prop} {K : Kt MV} {Q : Value -> Shared -> Prop} {cl : Orc} {fz : Str -> Bool}
theorem bO1 {n : Nat} {x : Str} (hK : Bd K) (e : bE1 n x K m c) : c <= bigN := aA0 e fun _ e => aA0 e fun _ e => aS8 e fun _ _ e => aB e fun _ _ e => hK _ _ _ e
theorem bW {x : Str} {n : Nat} (hK : Bd K) : Bd (fun r m' c' => chk (isNone r) (match fz x with | true => bE1 n x K m' c' | false => K (.inst n x) m' c')) := fun v m c e => aA0 e fun _ e => by
 revert e
 cases fz x with
 | true => exact bO1 hK
 | false => exact hK _ _ _
theorem dE4 {x : Str} {D : Addr} {vs : List MV} {vals : List Value} (S : StaF C P N) (hcl : Snd C N d cl) (hA : aN3 d A) (H : Sh C ρ m c s.heap) (hc : C.clsA x = some D) (r : Reps C s.heap ρ vs vals) (e : runC P fz cl (.cls x) vs K m c) (hK : Bd K) (k : Out C ρ s K Q) :
  wpAny (model C.prog C.w) A (call (.ref D) vals) Q E s := by
 have X := S.kin.keeps H.keep0
 have Y := makes_of (M := model C.prog C.w) X (S.cls x D hc).mi
 obtain ⟨n0, ri⟩ := cC7 (s := s) H hc
 revert e
 show (match P.cls x with | some true => _ | some false => _ | none => False) -> _
 cases hb : P.cls x with
 | none => exact fun e => e.elim
 | some b =>
  obtain ⟨D', hc', hg, hkp, hi⟩ := S.clsG x b hb
  cases hc.symm.trans hc'
  cases b with
  | true =>
   refine fun e => ex1 hi fun fI hfI => ?_
   have hT := (S.isf x _ fI hfI).1
   have g := (hcl _ _ _ _ _ _ (bW hK) e).2
   obtain ⟨hp, gg, dd, tk, os⟩ := s
   refine wpAny_call (make_core Y (looks_findIn X (S.met x _ fI D hfI hc)) (fun self => bind_fn X self hT) (.inl rfl) ?_)
   refine g fI _ _ _ _ _ hfI ⟨hA.1, ?_, ?_⟩ n0.sh ⟨_, _, rfl, ri, n0.reps r⟩ fun v v' ρ' m' c' s' e nx rv => aA0 e fun hn e => ?_
   ·have := hA.2.1
    show (Around.under _ _).depth + _ + _ < _
    rw [depth_under_make]; lia
   ·have := hA.2.2
    show (Around.under _ _).units + _ + _ < _
    rw [units_under_make]; lia
   ·refine ⟨eq_of_beq ((aD6 rv).trans hn), ?_⟩
    revert e
    have nx' := n0.trans nx
    cases fz x with
    | true => exact fun e => bN6 H nx' (nx.rep ri) e k
    | false => exact fun e => k _ _ _ _ _ _ e nx' (nx.rep ri)
  | false =>
   cases vs with
   | cons => exact fun e => e.elim
   | nil =>
    intro e
    cases (show vals = [] from r)
    obtain ⟨hp, gg, dd, tk, os⟩ := s
    refine wpAny_call (make_core Y (looks_findIn X hi) (fun self => Looks.of_pure (oi_bind self)) (.inr ⟨rfl, rfl⟩) ?_)
    have hx : ((hp.push emptyDict).push (instObj D hp.objs.size)).get? (hp.objs.size + 1) = some (instObj D hp.objs.size) := by
     have := Heap.get?_push_size (h := hp.push emptyDict) (o := instObj D hp.objs.size) rfl
     rwa [Heap.size_push] at this
    have t1 : Looks (model C.prog C.w) ((hp.push emptyDict).push (instObj D hp.objs.size)) (typeOf (.ref (hp.objs.size + 1))) (.ref D) := (Looks.ld hx).andThen .now
    have t2 : Looks (model C.prog C.w) ((hp.push emptyDict).push (instObj D hp.objs.size)) (isInstance (.ref (hp.objs.size + 1)) (.type "object")) true := t1.andThen (Y.top.keeps fun b o e => aA4 _ _ _ _ (aA4 _ _ _ _ e))
    refine codeAny_call_builtin oi_plain entry_oi (@check_slot (model C.prog C.w) _ _ _ "object.__init__" "object" "__init__" (.ref (hp.objs.size + 1)) [] [] _ oi_kind oi_split t2 (oi_args (.ref (hp.objs.size + 1))) ?_)
    rw [oi_run]
    exact wpAny_pure (And.intro rfl (k _ _ _ _ _ _ e n0 ri))
theorem dT4 {g : Callee} {vs : List MV} {f : Value} {first vals : List Value} (S : StaF C P N) (hcl : Snd C N d cl) (hA : aN3 d A) (H : Sh C ρ m c s.heap) (rc : RepC C N s.heap ρ g f first) (r : Reps C s.heap ρ vs vals) (e : runC P fz cl g vs K m c) (hK : Bd K) (k : Out C ρ s K Q) :
  wpAny (model C.prog C.w) A (call f (first ++ vals)) Q E s := by
 have hu : A.units + 64 < cLine := by have := hA.2.2; lia
 cases g with
 | fn x f pre =>
  refine ex1 rc fun a rc => ?_
  cases rc.2.1
  exact wpAny_call ((hcl _ _ _ _ _ _ hK e).2 a ρ s A _ _ rc.1 ⟨hA.1, by have := hA.2.1; lia, by have := hA.2.2; lia⟩ H (Reps.append r rc.2.2) k)
 | cls x => exact ex1 rc fun D rc => by cases rc.2.2.1; cases rc.2.2.2; exact dE4 S hcl hA H rc.1 r e hK k
 | blt t => exact bK e fun v hv e9 => by cases rc.1; cases rc.2; subst hv; exact bR9 r fun w ew rw' => ew ▸ dI0 H rw' e9 hK k
 | lappend i => exact ex1 rc fun a rc => by cases rc.2.1; cases rc.2.2; exact bS3 H rc.1 r e hK k
 | lextend i => exact ex1 rc fun a rc => by cases rc.2.1; cases rc.2.2; exact bT6 H rc.1 r e hK k
 | lpop i => exact ex1 rc fun a rc => by cases rc.2.1; cases rc.2.2; exact dK0 H rc.1 r e hK k
 | dget i =>
  exact ex1 rc fun a rc => by
   cases rc.2.1; cases rc.2.2
   exact aZ6 e fun es he e9 => bF1 hu H (bS4 S.toSta H (zzL rc.1)) (H.cell i a _ rc.1 he).1 r e9 k
 | sget x =>
  exact ex1 rc fun a rc => by
   cases rc.2.1; cases rc.2.2
   exact aB e fun es he e9 => cQ7 S.toSta H he rc.1 fun b eb hs D => by cases eb; exact bF1 hu H hs D r e9 k
end
section
variable {P : PI} {m : Mem} {c : Nat} {K : Kt MV} {cl : Orc} {fz : Str -> Bool}
theorem le1 {j : Nat} (h : c + j <= bigN) : c <= bigN := nT (nA _ _) h
theorem bd_C {k : Const} (hK : Bd K) (e : evC k K m c) : c <= bigN := by cases k <;> first | exact e.elim | exact hK _ _ _ e
theorem bd_N {sc : Scope} {x : Str} {loc : Loc} (hK : Bd K) (e : evN P sc x loc K m c) : c <= bigN := aA0 e fun _ e => aB e fun _ _ e => aB e fun _ _ e => hK _ _ _ e
theorem dO7 {a b : MV} (hK : Bd K) (e : add a b K m c) : c <= bigN := by
 cases a with
 | p x => exact aE1 e fun _ _ e => aA5 e fun _ _ e => aE1 e fun _ _ e => hK _ _ _ e
 | obj i => exact aQ4 e fun _ _ e => aC9 e fun _ _ e => aC9 e fun _ _ e => le1 (hK _ _ _ e)
 | _ => exact e.elim
theorem dH6 {a b : MV} (hK : Bd K) (e : mul a b K m c) : c <= bigN := aA5 e fun x _ e => aA5 e fun _ _ e => aE1 e fun _ _ e => by
 cases x with
 | int i => exact hK _ _ _ (aI9 e).2
 | tup l => cases l with
  | nil => exact e.elim
  | cons x l => cases l with
   | nil => exact aA0 e fun _ e => hK _ _ _ e
   | cons => exact e.elim
 | _ => exact e.elim
theorem bO8 {op : Operator} {a b : MV} (hK : Bd K) (e : aF0 op a b K m c) : c <= bigN := by
 cases op with
 | Add => exact dO7 hK e
 | Sub => exact aN5 e fun _ _ _ _ e => hK _ _ _ e
 | Mult => exact dH6 hK e
 | Mod => exact aN5 e fun _ _ _ _ e => hK _ _ _ (aI9 e).2
 | FloorDiv => exact aN5 e fun _ _ _ _ e => hK _ _ _ (aI9 e).2
 | _ => exact e.elim
theorem bd_i {op : Operator} {a b : MV} (hK : Bd K) (e : iop op a b K m c) : c <= bigN := by
 cases op with
 | Add => exact aN5 e fun _ _ _ _ e => hK _ _ _ e
 | Sub => exact aN5 e fun _ _ _ _ e => hK _ _ _ e
 | _ => exact e.elim
theorem dP5 {op : UnaryOp} {a : MV} (hK : Bd K) (e : unop op a K m c) : c <= bigN := by
 cases op with
 | USub => exact aA5 e fun _ _ e => aE1 e fun _ _ e => hK _ _ _ e
 | _ => exact e.elim
theorem dL9 {a b : MV} {k : Bool -> Prop} {q : Prop} (hK : ∀ b, k b -> q) (e : cD4 P m a b k) : q := aA5 e fun x _ e => by
 cases b with
 | p l => exact aE1 e fun _ _ e => aG3 e fun _ _ e => aB e fun _ _ e => hK _ e
 | obj i => exact aZ6 e fun _ _ e => aA0 e fun _ e => hK _ e
 | glob x => exact aB e fun _ _ e => aA0 e fun _ e => hK _ e
 | _ => exact e.elim
theorem aV4 {op : CmpOp} {a b : MV} (hK : Bd K) (e : aG1 P op a b K m c) : c <= bigN := by
 cases op with
 | Eq => cases a with
  | p x => exact aA5 e fun _ _ e => aA0 e fun _ e => hK _ _ _ e
  | obj i => exact aQ4 e fun _ _ e => aC9 e fun _ _ e => aC9 e fun _ _ e => hK _ _ _ (aI9 e).2
  | _ => exact e.elim
 | NotEq => exact aA5 e fun _ _ e => aA5 e fun _ _ e => aA0 e fun _ e => hK _ _ _ e
 | Is => exact aA0 e fun _ e => hK _ _ _ e
 | IsNot => exact aA0 e fun _ e => hK _ _ _ e
 | In => exact dL9 (fun b => hK _ _ _) e
 | NotIn => exact dL9 (fun b => hK _ _ _) e
 | _ => exact aN5 e fun _ _ _ _ e => hK _ _ _ e
theorem cJ9 {a : MV} {K : Kt Bool} (hK : Bd K) (e : truK a K m c) : c <= bigN := by
 cases a with
 | p x => cases x <;> first | exact hK _ _ _ e | exact e.elim
 | obj i => exact aC9 e fun _ _ e => hK _ _ _ e
 | _ => exact e.elim
theorem aS3 {a k : MV} (hK : Bd K) (e : getI a k K m c) : c <= bigN := aA5 e fun k _ e => by
 cases a with
 | p x => exact aG3 e fun _ _ e => aE1 e fun _ _ e => aU2 e fun _ _ _ e => aB e fun _ _ e => hK _ _ _ e
 | obj i =>
  revert e
  show (match m[i]? with | some (.pl l) => _ | some (.list l) => _ | some (.dict es) => _ | _ => False) -> _
  cases m[i]? with
  | none => exact fun e => e.elim
  | some o => cases o with
   | attrs => exact fun e => e.elim
   | dict => exact fun e => aB e fun _ _ e => hK _ _ _ (aI9 e).2
   | _ => exact fun e => aE1 e fun _ _ e => aU2 e fun _ _ _ e => aB e fun _ _ e => hK _ _ _ e
 | _ => exact e.elim
theorem aT7 {a k v : MV} {K : Kt Unit} (hK : Bd K) (e : setI a k v K m c) : c <= bigN := aQ4 e fun i _ e => aA5 e fun k _ e => by
 revert e
 show (match m[i]? with | some (.pl l) => _ | some (.dict es) => _ | _ => False) -> _
 cases m[i]? with
 | none => exact fun e => e.elim
 | some o => cases o with
  | pl => exact fun e => aA5 e fun _ _ e => aE1 e fun _ _ e => aU2 e fun _ _ _ e => hK _ _ _ (aI9 e).2
  | dict => exact fun e => le1 (hK _ _ _ (aI9 e).2)
  | _ => exact fun e => e.elim
theorem cH9 {v : MV} {k : Nat -> Prop} {g : Prop} (e : onLo v k) (f : ∀ x : Nat, ((v = n_ /\ x = 0) ∨ v = i_ x) -> k x -> g) : g := aA5 e fun y hy e => by
 cases y with
 | none => exact f 0 (.inl ⟨hy, rfl⟩) e
 | int i => exact aU2 e fun n hn _ e => f n (.inr (hn ▸ hy)) e
 | _ => exact e.elim
theorem aU3 {a lo hi : MV} (hK : Bd K) (e : dA3 a lo hi K m c) : c <= bigN := cH9 e fun _ _ e => aA5 e fun _ _ e => aE1 e fun _ _ e => aU2 e fun _ _ _ e => aA0 e fun _ e => by
 cases a with
 | frz l => exact le1 (hK _ _ _ e)
 | obj i => exact aC9 e fun _ _ e => le1 (hK _ _ _ e)
 | _ => exact e.elim
theorem bA0 {a : MV} {x : Str} (hK : Bd K) (e : getA P a x K m c) : c <= bigN := by
 cases a with
 | inst i cn => exact aA0 e fun _ e => aS8 e fun _ _ e => aB e fun _ _ e => hK _ _ _ e
 | p x => cases x <;> first | exact e.elim | exact aA0 e fun _ e => aB e fun _ _ e => hK _ _ _ e
 | _ => exact e.elim
theorem bB8 {a v : MV} {x : Str} {K : Kt Unit} (hK : Bd K) (e : setA P a x v K m c) : c <= bigN := by
 cases a <;> first | exact e.elim | exact aA0 e fun _ e => aS8 e fun _ _ e => aA0 e fun _ e => hK _ _ _ e
theorem bR6 {a : MV} {x : Str} {K : Kt Callee} (hK : Bd K) (e : getM P a x K m c) : c <= bigN := by
 cases a with
 | inst i cn => exact aS8 e fun _ _ e => aA0 e fun _ e => hK _ _ _ e
 | obj i =>
  revert e
  show (match m[i]? with | some (.pl _) => (match x == V "append" with | true => _ | false => (match x == V "extend" with | true => _ | false => _)) | some (.list _) => _ | some (.dict _) => _ | _ => False) -> _
  cases m[i]? with
  | none => exact fun e => e.elim
  | some o => cases o with
   | pl => cases x == V "append" with
    | true => exact hK _ _ _
    | false => cases x == V "extend" with
     | true => exact hK _ _ _
     | false => exact fun e => aA0 e fun _ e => hK _ _ _ e
   | attrs => exact fun e => e.elim
   | _ => exact fun e => aA0 e fun _ e => hK _ _ _ e
 | glob s => exact aA0 e fun _ e => hK _ _ _ e
 | _ => exact e.elim
theorem cZ3 {a : MV} {K : Kt Callee} (hK : Bd K) (e : getC P a K m c) : c <= bigN := by
 cases a with
 | glob s =>
  revert e
  show (match P.cls s with | some _ => _ | none => _) -> _
  cases P.cls s with
  | some => exact hK _ _ _
  | none => exact fun e => aB e fun _ _ e => hK _ _ _ e
 | blt s => exact hK _ _ _ e
 | _ => exact e.elim
theorem dE0 {t : String} {v : MV} (hK : Bd K) (e : aX8 t v K m c) : c <= bigN := by
 unfold aX8 at e
 split at e
 ·cases v with
  | p x => cases x <;> first | exact e.elim | exact hK _ _ _ e
  | obj i =>
   revert e
   show (match m[i]? with | some (.pl l) => _ | some (.list l) => _ | _ => False) -> _
   cases m[i]? with
   | none => exact fun e => e.elim
   | some o => cases o <;> first | exact fun e => e.elim | exact hK _ _ _
  | _ => exact e.elim
 ·exact aA5 e fun _ _ e => aE1 e fun _ _ e => aU2 e fun _ _ _ e => hK _ _ _ e
 ·exact cL6 e (fun _ _ _ _ e => hK _ _ _ e) fun _ _ _ _ e => hK _ _ _ e
 ·exact aA5 e fun _ _ e => aG3 e fun _ _ e => le1 (hK _ _ _ e)
 ·exact e.elim
theorem bL6 {es : List (PV × MV)} {vs : List MV} (hK : Bd K) (e : runC.dgetK es vs K m c) : c <= bigN := by
 cases vs with
 | nil => exact e.elim
 | cons x vs => cases vs with
  | nil => exact aA5 e fun _ _ e => aA0 e fun _ e => hK _ _ _ e
  | cons y vs => cases vs with
   | nil => exact aA5 e fun _ _ e => aA0 e fun _ e => hK _ _ _ e
   | cons => exact e.elim
theorem cI {C : Cx} {N : Fns} {d : Nat} {g : Callee} {vs : List MV} (hcl : Snd C N d cl) (hK : Bd K) (e : runC P fz cl g vs K m c) : c <= bigN := by
 cases g with
 | fn x f pre => exact (hcl _ _ _ _ _ _ hK e).1
 | cls x =>
  revert e
  show (match P.cls x with | some true => _ | some false => (match vs with | [] => _ | _ => False) | none => False) -> _
  cases P.cls x with
  | none => exact fun e => e.elim
  | some b => cases b with
   | true => exact fun e => (hcl _ _ _ _ _ _ (bW hK) e).1
   | false => cases vs with
    | nil => exact hK _ _ _
    | cons => exact fun e => e.elim
 | blt t => exact bK e fun _ _ e => dE0 hK e
 | lappend i =>
  exact bK e fun v _ e => by
   revert e
   show (match m[i]? with | some (.pl l) => appP i l v K m c | some (.list l) => _ | _ => False) -> _
   cases m[i]? with
   | none => exact fun e => e.elim
   | some o => cases o with
    | pl => cases v <;> exact fun e => le1 (hK _ _ _ e)
    | list => exact fun e => le1 (hK _ _ _ e)
    | _ => exact fun e => e.elim
 | lextend i => exact bK e fun _ _ e => aA5 e fun _ _ e => aG3 e fun _ _ e => aC9 e fun _ _ e => le1 (hK _ _ _ e)
 | lpop i => cases vs with
  | nil => exact aC9 e fun _ _ e => aB e fun _ _ e => hK _ _ _ e
  | cons => exact nO e
 | dget i => exact aZ6 e fun _ _ e => bL6 hK e
 | sget x => exact aB e fun _ _ e => bL6 hK e
theorem bG7 {n : Nat} {v : MV} (hK : Bd K) (e : bJ9 n v K m c) : c <= bigN := by
 revert e
 show (match Nat.beq m.length n with | true => _ | false => (match bB4 n m with | false => _ | true => (match okO n v with | true => _ | false => _))) -> _
 cases Nat.beq m.length n with
 | true => exact hK _ _ _
 | false => cases bB4 n m with
  | false => exact hK _ _ _
  | true => cases okO n v with
   | true => exact hK _ _ _
   | false => exact fun e => aQ4 e fun _ _ e => aC9 e fun _ _ e => hK _ _ _ e
theorem br_e {b : Bool} {X Y g : Prop} (e : br b X Y) (f : b = true -> X -> g) (f' : b = false -> Y -> g) : g := by
 cases b with
 | true => exact f rfl e
 | false => exact f' rfl e
theorem cK7 {gc : Bool} {n : Nat} (hK : Bd K) : Bd (aR8 gc n K) := fun x m c e => by
 obtain ⟨f, l⟩ := x
 cases f with
 | next => exact br_e e (fun _ e => bG7 hK e) fun _ e => hK _ _ _ e
 | ret v => exact br_e e (fun _ e => bG7 hK e) fun _ e => hK _ _ _ e
 | _ => exact e.elim
end
section
variable {C : Cx} {P : PI} {N : Fns} {h : Heap} {ρ : Rho} {m : Mem} {c n : Nat} {s : Shared} {A : Around} {E : Value -> Shared -> Prop} {Q : Value -> Shared -> Prop}
noncomputable def Mk (P : PI) (g : Callee) : Prop := ∀ x, g = .cls x -> ∃ b, P.cls x = some b
noncomputable abbrev OutC (C : Cx) (P : PI) (N : Fns) (ρ : Rho) (s : Shared) (K : Kt Callee) (Q : Value × List Value -> Shared -> Prop) : Prop :=
 ∀ g v f m c, K g m c -> Sh C ρ m c s.heap -> Mk P g -> RepC C N s.heap ρ g v f -> Q (v, f) s
theorem aR2 {x y : Str} (q : (x == y) = true) : x = y := eq_of_beq q
theorem cT4 {a : MV} {a' : Value} {x : Str} {pl : Sem Bool} {K : Kt Callee} {Q : Value × List Value -> Shared -> Prop} (S : StaF C P N) (H : Sh C ρ m c s.heap) (ra : Rep C s.heap ρ a a') (e : getM P a x K m c) (k : OutC C P N ρ s K Q) : wpAny (model C.prog C.w) A (getMethod a' x pl) Q E s := by
 cases a with
 | inst i cn =>
  exact aS8 e fun l hl e => aA0 e fun q e => aA q fun q1 q2 => ex1 (Option.isSome_iff_exists.mp q2) fun fi hfi => ex1 (S.fn _ _ _ hfi) fun f hf => ex3 ra fun y dx D r => ex2 (H.cell i dx _ r.2.1 hl) fun es n q => by
   have F := S.cls _ _ r.2.2.1
   refine r.1 ▸ method_fn (S.kin.keeps H.keep0) (aO r.2.2.2.1 q.1) F.ga F.gn (S.met _ _ _ _ hf.1 r.2.2.1) (S.isf _ _ _ hf.1).1 ?_ (k _ _ _ _ _ e H (fun _ z => nomatch z) ⟨f, hf.1, rfl, _, _, rfl, r.1 ▸ ra, rfl⟩)
   show Option.map (fun r => r.isSome) (lookIn x (dictOf es n)) = some false
   rw [lookIn_dict, q.2.getN (Option.isNone_iff_eq_none.mp q1)]; rfl
 | obj i =>
  refine ex1 ra fun y r => ?_
  have lst : ∀ {vs : List Value} {n : Nat}, s.heap.get? y = some (listOf vs.toArray n) -> s.TypeIs (.ref y) "list" /\ ∀ b, Value.ref y = .ref b -> ∃ ob, s.heap.get? b = some ob /\ ob.dict = none := fun hy => ⟨⟨_, hy, rfl⟩, fun b q => by cases q; exact ⟨_, hy, rfl⟩⟩
  revert e
  show (match m[i]? with | some (.pl _) => (match x == V "append" with | true => _ | false => (match x == V "extend" with | true => _ | false => _)) | some (.list _) => _ | some (.dict _) => _ | _ => False) -> _
  cases hm : m[i]? with
  | none => exact fun e => e.elim
  | some o => cases o with
   | pl l =>
    refine ex2 (H.cell i y _ r.1 hm) fun vs n q => ?_
    have z := lst q.1
    cases h1 : x == V "append" with
    | true => exact fun e => r.2 ▸ aR2 h1 ▸ PySem.getMethod_builtin z.1 PySem.F.plainAttrs_list PySem.F.slot_list_append PySem.F.type_list_append z.2 (k _ _ _ _ _ e H (fun _ z => nomatch z) ⟨y, r.1, rfl, rfl⟩)
    | false => cases h2 : x == V "extend" with
     | true => exact fun e => r.2 ▸ aR2 h2 ▸ PySem.getMethod_builtin z.1 PySem.F.plainAttrs_list PySem.F.slot_list_extend PySem.F.type_list_extend z.2 (k _ _ _ _ _ e H (fun _ z => nomatch z) ⟨y, r.1, rfl, rfl⟩)
     | false => exact fun e => aA0 e fun h3 e => r.2 ▸ aR2 h3 ▸ PySem.getMethod_builtin z.1 PySem.F.plainAttrs_list PySem.F.slot_list_pop PySem.F.type_list_pop z.2 (k _ _ _ _ _ e H (fun _ z => nomatch z) ⟨y, r.1, rfl, rfl⟩)
   | list l =>
    refine ex2 (H.cell i y _ r.1 hm) fun vs n q => ?_
    have z := lst q.1
    exact fun e => aA0 e fun h1 e => r.2 ▸ aR2 h1 ▸ PySem.getMethod_builtin z.1 PySem.F.plainAttrs_list PySem.F.slot_list_append PySem.F.type_list_append z.2 (k _ _ _ _ _ e H (fun _ z => nomatch z) ⟨y, r.1, rfl, rfl⟩)
   | dict es => exact fun e => aA0 e fun h1 e => ex1 (H.cell i y _ r.1 hm).1.is fun o z => r.2 ▸ aR2 h1 ▸ PySem.getMethod_builtin ⟨o, z.1, z.2.1⟩ PySem.F.plainAttrs_dict PySem.F.slot_dict_get PySem.F.type_dict_get (fun b q => by cases q; exact ⟨_, z.1, z.2.2.1⟩) (k _ _ _ _ _ e H (fun _ z => nomatch z) ⟨y, r.1, rfl, rfl⟩)
   | attrs => exact fun e => e.elim
 | glob g => exact aA0 e fun q e => aA q fun q1 q2 => ex1 (Option.isSome_iff_exists.mp q2) fun es hes => cQ7 S.toSta H hes ra fun b eb hs D => ex1 D.is fun o z => eb ▸ aR2 q1 ▸ PySem.getMethod_builtin ⟨o, z.1, z.2.1⟩ PySem.F.plainAttrs_dict PySem.F.slot_dict_get PySem.F.type_dict_get (fun b q => by cases q; exact ⟨_, z.1, z.2.2.1⟩) (k _ _ _ _ _ e H (fun _ z => nomatch z) ⟨b, eb ▸ ra, rfl, rfl⟩)
 | _ => exact e.elim
theorem cV9 {a : MV} {a' : Value} {K : Kt Callee} {g : Prop} (S : StaF C P N) (ra : Rep C h ρ a a') (e : getC P a K m c) (k : ∀ f, K f m c -> Mk P f -> RepC C N h ρ f a' [] -> g) : g := by
 cases a with
 | glob x =>
  revert e
  show (match P.cls x with | some _ => _ | none => _) -> _
  cases hb : P.cls x with
  | some b => exact fun e => ex1 (S.clsG _ _ hb) fun D q => k _ e (fun _ z => ⟨b, Callee.cls.inj z ▸ hb⟩) ⟨D, q.1, q.2.1, zzC (zzC (ra.1.symm.trans q.2.1)), rfl⟩
  | none => exact fun e => aB e fun fi hf e => ex1 (S.fn _ _ _ hf) fun f q => k _ e (fun _ z => nomatch z) ⟨f, q.1, zzC (zzC (ra.1.symm.trans (S.glo _ _ q.1))), rfl⟩
 | blt t => exact k _ e (fun _ z => nomatch z) ⟨ra, rfl⟩
 | _ => exact e.elim
theorem cP6 {g : Callee} {v : Value} {first : List Value} (S : StaF C P N) (rc : RepC C N h ρ g v first) (hb : Mk P g) (j : Heap) (X : C.K.In j) :
  ∃ k, (k = Keeper.frame ∨ k = Keeper.machine ∨ k = Keeper.boundFrame) /\ Looks (model C.prog C.w) j (keeperOf v) k := by
 have bl : ∀ {t}, v = .builtin t -> ∃ k, (k = Keeper.frame ∨ k = Keeper.machine ∨ k = Keeper.boundFrame) /\ Looks (model C.prog C.w) j (keeperOf v) k := fun e => e ▸ ⟨.machine, .inr (.inl rfl), Looks.of_pure rfl⟩
 cases g with
 | fn => exact ex1 rc fun a r => r.2.1 ▸ keeps_K (S.isf _ _ _ r.1).2 j X
 | cls x => exact ex1 rc fun D r => ex1 (hb _ rfl) fun b hb => ex1 (S.clsG _ _ hb) fun D' q => r.2.2.1 ▸ keeps_K (zzC (q.1.symm.trans r.1) ▸ q.2.2.1) j X
 | blt t => exact rc.1 ▸ ⟨.machine, .inr (.inl rfl), Looks.of_pure (by unfold bltV; split <;> rfl)⟩
 | lappend => exact ex1 rc fun a r => bl r.2.1
 | lextend => exact ex1 rc fun a r => bl r.2.1
 | lpop => exact ex1 rc fun a r => bl r.2.1
 | dget => exact ex1 rc fun a r => bl r.2.1
 | sget => exact ex1 rc fun a r => bl r.2.1
theorem aP1 {g : Callee} {v : Value} {first : List Value} {pos : Pos} {trees : List (Bool × Sem Value)} (S : StaF C P N) (rc : RepC C N h ρ g v first) (hb : Mk P g) (hp : trees.any (·.1) = false)
  (k : wpAny (model C.prog C.w) A (spliced trees) (fun vs s1 => C.K.In s1.heap /\ wpAny (model C.prog C.w) A (call v (first ++ vs)) Q E s1) E s) : wpAny (model C.prog C.w) A (callWith pos v first trees []) Q E s := by
 refine callWith_of (P := C.K.In) (by rw [hp]; rfl) (cP6 S rc hb) ?_
 cases trees with
 | nil =>
  unfold evalArgs
  show wpAny _ A (spliced [] >>= _) _ E s
  refine wpAny_bind (wpAny_mono k (fun vs s1 h₁ => wpAny_bind (wpAny_pure ?_)) fun _ _ z => z)
  exact wpAny_holding (wpAny_bind (wpAny_pure (wpAny_bind (wpAny_pure (wpAny_pure h₁)))))
 | cons t r =>
  obtain ⟨b, t⟩ := t
  rw [List.any_cons, Bool.or_eq_false_iff] at hp
  obtain ⟨rfl, hp⟩ := hp
  exact Calls.evalArgs_plain k
end
structure Cfg (C : Cx) (d : Nat) (env : Env) (A : Around) (ρ : Rho) (m : Mem) (c : Nat) (loc : Loc) (s : Shared) : Prop where
 O : EnvOk env
 a : Afr C env ρ m c loc s
 r : aN3 d A
noncomputable abbrev OutG {α β : Type} (C : Cx) (rep : Heap -> Rho -> α -> β -> Prop) (ρ : Rho) (s : Shared) (K : Kt α) (Q : β -> Shared -> Prop) : Prop :=
 ∀ v v' ρ' m' c' s', K v m' c' -> Nx C ρ s m' c' ρ' s' -> rep s'.heap ρ' v v' -> Q v' s'
structure Sim {α β : Type} (C : Cx) (d : Nat) (rep : Heap -> Rho -> α -> β -> Prop) (ev : Scope -> Loc -> PT α) (tree : Env -> Sem β) : Prop where
 bd : ∀ {sc : Scope} {loc : Loc} {K : Kt α} {m : Mem} {c : Nat}, Bd K -> ev sc loc K m c -> c <= bigN
 sim : ∀ {env : Env} {A : Around} {ρ : Rho} {m : Mem} {c : Nat} {loc : Loc} {s : Shared} {K : Kt α} {E : Value -> Shared -> Prop} {Q : β -> Shared -> Prop},
  Cfg C d env A ρ m c loc s -> Bd K -> ev env.scope loc K m c -> OutG C rep ρ s K Q -> wpAny (model C.prog C.w) A (tree env) Q E s
section
variable (C : Cx) (P : PI) (d : Nat) (fz : Str -> Bool) (cl : Orc)
noncomputable abbrev SimE (e : Expr) : Prop := Sim C d (Rep C) (evE P fz cl e) (PySem.eval e)
noncomputable abbrev SimT (e : Expr) : Prop := Sim C d (fun _ _ => Eq) (fun sc loc => evT P fz cl e sc loc (evE P fz cl e sc loc)) (fun env => isTrue e env (PySem.eval e env))
noncomputable abbrev bM8 (es : List Expr) : Prop := ∀ op, Sim C d (fun _ _ => Eq) (evTs P fz cl op es) (allTrue op es)
noncomputable abbrev SimB (es : List Expr) : Prop := ∀ op pos, Sim C d (Rep C) (evB P fz cl op es) (fun env => boolOp pos op (evalEach es env))
noncomputable abbrev SimL (es : List Expr) : Prop := ∀ pos, Sim C d (Reps C) (evL P fz cl es) (fun env => spliced (backTo pos (starEach es env)))
noncomputable abbrev SimO (e : Option Expr) : Prop := Sim C d (Rep C) (evO P fz cl e) (fun env => valueOrNone (evalOpt e env))
end
section
variable {C : Cx} {P : PI} {h : Heap} {ρ ρ' : Rho} {m m' : Mem} {c c' n d : Nat} {s s' : Shared} {A : Around} {E : Value -> Shared -> Prop} {K : Kt MV} {Q : Value -> Shared -> Prop} {cl : Orc} {fz : Str -> Bool} {env : Env} {loc : Loc}
theorem Cfg.next (g : Cfg C d env A ρ m c loc s) (n : Nx C ρ s m' c' ρ' s') : Cfg C d env A ρ' m' c' loc s' := ⟨g.O, g.a.next n, g.r⟩
theorem Cfg.cmp (g : Cfg C d env A ρ m c loc s) : A.units + 64 < cLine := by have := g.r.2.2; lia
theorem OutG.on {α β : Type} {rep : Heap -> Rho -> α -> β -> Prop} {K : Kt α} {Q : β -> Shared -> Prop} (n : Nx C ρ s m' c' ρ' s') (k : OutG C rep ρ s K Q) : OutG C rep ρ' s' K Q := fun v v' ρ' m' c' s' e n' r => k v v' ρ' m' c' s' e (n.trans n') r
theorem OutG.b {K : Kt Bool} {Q : Bool -> Shared -> Prop} (k : OutG C (fun _ _ => Eq) ρ s K Q) : OutB C ρ s K Q := fun b ρ' m' c' s' e n => k b b ρ' m' c' s' e n rfl
theorem aE3 {q : Const} {k : Nat} {pos : Pos} : SimE C P d fz cl (.Constant q k pos) where
 bd hK e := bd_C hK e
 sim {env A ρ m c loc s K E Q} g hK e k := by
  cases q with
  | none => exact wpAny_Constant_none (dG5 g.a.sh k e)
  | bool b => exact wpAny_Constant_bool (aM1 g.a.sh k e)
  | int i => exact wpAny_Constant_int (aO9 g.a.sh k e _)
  | str i => exact wpAny_Constant_str (aE2 g.a.sh k e ⟨_, rfl⟩ _)
  | _ => exact e.elim
theorem aJ9 (S : Sta C P) {x : Str} {pos : Pos} : SimE C P d fz cl (.Name x pos) where
 bd hK e := bd_N hK e
 sim g hK e k := bB5 S g.O g.a e k
theorem aG8 {l r : Expr} {op : Operator} {pos : Pos} (hl : SimE C P d fz cl l) (hr : SimE C P d fz cl r) : SimE C P d fz cl (.BinOp l op r pos) where
 bd hK e := hl.bd (fun _ _ _ e => hr.bd (fun _ _ _ e => bO8 hK e) e) e
 sim g hK e k := wpAny_BinOp (hl.sim g (fun _ _ _ e => hr.bd (fun _ _ _ e => bO8 hK e) e) e fun x x' ρ1 m1 c₁ s1 e n1 r1 => hr.sim (g.next n1) (fun _ _ _ e => bO8 hK e) e fun y y' ρ2 m2 c2 s2 e n2 r2 =>
  dM3 n2.sh (n2.rep r1) r2 e hK (k.on (n1.trans n2)))
theorem aN8 {x : Expr} {op : UnaryOp} {pos : Pos} (hx : SimE C P d fz cl x) : SimE C P d fz cl (.UnaryOp op x pos) where
 bd hK e := hx.bd (fun _ _ _ e => dP5 hK e) e
 sim g hK e k := wpAny_UnaryOp (hx.sim g (fun _ _ _ e => dP5 hK e) e fun x x' ρ1 m1 c₁ s1 e n1 r1 => eC4 n1.sh r1 e (k.on n1))
theorem bK6 {op : BoolOp} {es : List Expr} {pos : Pos} (hx : SimB C P d fz cl es) : SimE C P d fz cl (.BoolOp op es pos) where
 bd hK e := (hx op pos).bd hK e
 sim g hK e k := by rw [arm_eval_BoolOp]; exact (hx op _).sim g hK e k
theorem bN9 {t b o : Expr} {pos : Pos} (ht : SimT C P d fz cl t) (hb : SimE C P d fz cl b) (ho : SimE C P d fz cl o) : SimE C P d fz cl (.IfExp t b o pos) where
 bd hK e := ht.bd (fun _ _ _ e => br_e e (fun _ e => hb.bd hK e) fun _ e => ho.bd hK e) e
 sim g hK e k := wpAny_IfExp (ht.sim g (fun _ _ _ e => br_e e (fun _ e => hb.bd hK e) fun _ e => ho.bd hK e) e fun x x' ρ1 m1 c₁ s1 e n1 r1 => br_e e (fun q e => by subst q r1; exact hb.sim (g.next n1) hK e (k.on n1)) fun q e => by subst q r1; exact ho.sim (g.next n1) hK e (k.on n1))
theorem aO7 (S : Sta C P) {l r : Expr} {op : CmpOp} {pos : Pos} (hl : SimE C P d fz cl l) (hr : SimE C P d fz cl r) : SimE C P d fz cl (.Compare l [op] [r] pos) where
 bd hK e := aA0 e fun _ e => hl.bd (fun _ _ _ e => hr.bd (fun _ _ _ e => aV4 hK e) e) e
 sim g hK e k := aA0 e fun q e => wpAny_Compare1 (hl.sim g (fun _ _ _ e => hr.bd (fun _ _ _ e => aV4 hK e) e) e fun x x' ρ1 m1 c₁ s1 e n1 r1 => hr.sim (g.next n1) (fun _ _ _ e => aV4 hK e) e fun y y' ρ2 m2 c2 s2 e n2 r2 =>
  cI5 S g.cmp n2.sh (n2.rep r1) r2 e (k.on (n1.trans n2))) (Bool.not_eq_true' _ ▸ q)
theorem aP5 {K : Kt Bool} (hK : Bd K) : Bd (fun v => truK v K) := fun _ _ _ e => cJ9 hK e
theorem aV9 (S : Sta C P) {l r : Expr} {op : CmpOp} {pos : Pos} (hl : SimE C P d fz cl l) (hr : SimE C P d fz cl r) : SimT C P d fz cl (.Compare l [op] [r] pos) where
 bd hK e := (aO7 S hl hr).bd (aP5 hK) e
 sim {env A ρ m c loc s K E Q} g hK e k := aA0 (show chk _ _ from e) fun q e => wpAny_isTrue_Compare1 (hl.sim g (fun _ _ _ e => hr.bd (fun _ _ _ e => aV4 (aP5 hK) e) e) e fun x x' ρ1 m1 c₁ s1 e n1 r1 => hr.sim (g.next n1) (fun _ _ _ e => aV4 (aP5 hK) e) e fun y y' ρ2 m2 c2 s2 e n2 r2 =>
  cI5 S g.cmp n2.sh (n2.rep r1) r2 e fun z z' ρ3 m3 c3 s3 e n3 r3 => aO5 n3.sh r3 e hK (k.on ((n1.trans n2).trans n3)).b) (Bool.not_eq_true' _ ▸ q)
theorem cF {e : Expr} (hE : SimE C P d fz cl e) (h1 : ∀ sc loc w, evT P fz cl e sc loc w = fun K => w fun v => truK v K) (h2 : ∀ env whole, isTrue e env whole = (do let v <- whole; standAt e.pos; holding [v] (PySem.truthy v))) : SimT C P d fz cl e where
 bd {sc loc K m c} hK q := hE.bd (aP5 hK) ((congrFun (congrFun (congrFun (h1 sc loc _) K) m) c).mp q)
 sim {env A ρ m c loc s K E Q} g hK q k := wpAny_isTrue_value (hE.sim g (aP5 hK) ((congrFun (congrFun (congrFun (h1 env.scope loc _) K) m) c).mp q) fun x x' ρ1 m1 c₁ s1 e n1 r1 => aO5 n1.sh r1 e hK (k.on n1).b) (h2 _ _)
theorem cB7 {x : Expr} {pos : Pos} (hx : SimT C P d fz cl x) : SimT C P d fz cl (.UnaryOp .Not x pos) where
 bd hK e := hx.bd (fun _ _ _ e => hK _ _ _ e) e
 sim g hK e k := wpAny_isTrue_Not (hx.sim g (fun _ _ _ e => hK _ _ _ e) e fun b b' ρ1 m1 c₁ s1 e n1 r1 => k _ _ _ _ _ _ e n1 (congrArg _ r1))
theorem bA8 {op : BoolOp} {es : List Expr} {pos : Pos} (hx : bM8 C P d fz cl es) : SimT C P d fz cl (.BoolOp op es pos) where
 bd hK e := (hx op).bd hK e
 sim g hK e k := wpAny_isTrue_BoolOp ((hx op).sim g hK e k)
theorem bT7 : bM8 C P d fz cl [] := fun op => by
 cases op with
 | And => exact ⟨fun hK e => hK _ _ _ e, fun g hK e k => wpAny_pure (k _ _ _ _ _ _ e (Nx.refl g.a.sh) rfl)⟩
 | Or => exact ⟨fun hK e => hK _ _ _ e, fun g hK e k => wpAny_pure (k _ _ _ _ _ _ e (Nx.refl g.a.sh) rfl)⟩
theorem bJ3 {x : Expr} {r : List Expr} (hx : SimT C P d fz cl x) (hr : bM8 C P d fz cl r) : bM8 C P d fz cl (x :: r) := fun op => by
 cases op with
 | And => exact ⟨fun hK e => hx.bd (fun _ _ _ e => br_e e (fun _ e => (hr _).bd hK e) fun _ e => hK _ _ _ e) e,
   fun g hK e k => wpAny_allTrue_And_cons (hx.sim g (fun _ _ _ e => br_e e (fun _ e => (hr _).bd hK e) fun _ e => hK _ _ _ e) e fun b b' ρ1 m1 c₁ s1 e n1 r1 => br_e e (fun q e => by subst q r1; exact (hr _).sim (g.next n1) hK e (k.on n1)) fun q e => by subst q r1; exact k _ _ _ _ _ _ e n1 rfl)⟩
 | Or => exact ⟨fun hK e => hx.bd (fun _ _ _ e => br_e e (fun _ e => hK _ _ _ e) fun _ e => (hr _).bd hK e) e,
   fun g hK e k => wpAny_allTrue_Or_cons (hx.sim g (fun _ _ _ e => br_e e (fun _ e => hK _ _ _ e) fun _ e => (hr _).bd hK e) e fun b b' ρ1 m1 c₁ s1 e n1 r1 => br_e e (fun q e => by subst q r1; exact k _ _ _ _ _ _ e n1 rfl) fun q e => by subst q r1; exact (hr _).sim (g.next n1) hK e (k.on n1))⟩
theorem bZ7 : SimB C P d fz cl [] := fun op pos => ⟨fun hK e => nO e, fun g hK e k => nO e⟩
theorem bd_B {op : BoolOp} {pos : Pos} {r : List Expr} (hr : SimB C P d fz cl r) {sc : Scope} {loc : Loc} (hK : Bd K) : Bd (fun v m c => br r.isEmpty (K v m c) (truK v (fun b m c => br (op == .And) (br b (evB P fz cl op r sc loc K m c) (K v m c)) (br b (K v m c) (evB P fz cl op r sc loc K m c))) m c)) :=
 fun v m c e => br_e e (fun _ e => hK _ _ _ e) fun _ e => cJ9 (fun b m c e => br_e e (fun _ e => br_e e (fun _ e => (hr op pos).bd hK e) fun _ e => hK _ _ _ e) fun _ e => br_e e (fun _ e => hK _ _ _ e) fun _ e => (hr op pos).bd hK e) e
theorem bU6 {x : Expr} {r : List Expr} (hx : SimE C P d fz cl x) (hr : SimB C P d fz cl r) : SimB C P d fz cl (x :: r) := fun op pos => by
 refine ⟨fun hK e => hx.bd (bd_B (op := op) (pos := pos) hr hK) e, fun {env A ρ m c loc s K E Q} g hK e k => ?_⟩
 cases r with
 | nil => exact hx.sim g (bd_B (op := op) (pos := pos) hr hK) e fun v v' ρ1 m1 c₁ s1 e n1 r1 => k _ _ _ _ _ _ e n1 r1
 | cons y r =>
  show wpAny _ A (do
   let v <- PySem.eval x env
   standAt pos
   let t <- holding [v] (PySem.truthy v)
   match op, t with
   | .And, false | .Or, true => pure v
   | _, _ => boolOp pos op (evalEach (y :: r) env)) Q E s
  refine wpAny_bind (hx.sim g (bd_B (op := op) (pos := pos) hr hK) e fun v v' ρ1 m1 c₁ s1 e n1 r1 => br_e e (fun q _ => nomatch q) fun _ e => wpAny_bind (wpAny_standAt (wpAny_bind (wpAny_holding (aO5 n1.sh r1 e (fun b m c e => br_e e (fun _ e => br_e e (fun _ e => (hr op pos).bd hK e) fun _ e => hK _ _ _ e) fun _ e => br_e e (fun _ e => hK _ _ _ e) fun _ e => (hr op pos).bd hK e) fun b ρ2 m2 c2 s2 e n2 => ?_)))))
  have n3 := n1.trans n2
  cases op with
  | And => cases b with
   | true => exact (hr .And pos).sim (g.next n3) hK e (k.on n3)
   | false => exact wpAny_pure (k _ _ _ _ _ _ e n3 (n2.rep r1))
  | Or => cases b with
   | true => exact wpAny_pure (k _ _ _ _ _ _ e n3 (n2.rep r1))
   | false => exact (hr .Or pos).sim (g.next n3) hK e (k.on n3)
theorem bH5 : SimL C P d fz cl [] := fun pos => ⟨fun hK e => hK _ _ _ e, fun g hK e k => Calls.spliced_nil (k _ _ _ _ _ _ e (Nx.refl g.a.sh) rfl)⟩
theorem bR {e : Expr} {r : List Expr} {sc : Scope} {K : Kt MV} (q : evE P fz cl e sc loc K m c) : starEach (e :: r) env = (false, PySem.eval e env) :: starEach r env := by
 cases e with
 | Starred => exact (show False from q).elim
 | _ => rfl
theorem aW6 {x : Expr} {r : List Expr} (hx : SimE C P d fz cl x) (hr : SimL C P d fz cl r) : SimL C P d fz cl (x :: r) := fun pos => by
 refine ⟨fun hK e => hx.bd (fun _ _ _ e => (hr pos).bd (fun _ _ _ e => hK _ _ _ e) e) e, fun g hK e k => ?_⟩
 rw [bR e]
 exact Calls.spliced_cons (hx.sim g (fun _ _ _ e => (hr pos).bd (fun _ _ _ e => hK _ _ _ e) e) e fun v v' ρ1 m1 c₁ s1 e n1 r1 => (hr _).sim (g.next n1) (fun _ _ _ e => hK _ _ _ e) e fun vs vals ρ2 m2 c2 s2 e n2 r2 => k _ _ _ _ _ _ e (n1.trans n2) ⟨_, _, rfl, n2.rep r1, r2⟩)
theorem bB9 {pos : Pos} {es : List Expr} (q : es.all aS6 = true) : (backTo pos (starEach es env)).any (·.1) = false := by
 induction es with
 | nil => rfl
 | cons x r ih =>
  exact aA (List.all_cons ▸ q) fun q1 q2 => by
   have : starEach (x :: r) env = (false, PySem.eval x env) :: starEach r env := by cases x <;> first | rfl | exact nomatch q1
   rw [this]
   exact ih q2
theorem bV6 {vs : List MV} : ∀ {l : List PV} {vals : List Value}, allP vs = some l -> Reps C h ρ vs vals -> RepPs C h ρ l vals := by
 induction vs with
 | nil => exact fun e r => zzC e ▸ r
 | cons x vs ih =>
  intro l vals e r
  cases x with
  | p v =>
   revert e
   show (match allP vs with | some l => some (v :: l) | none => none) = some l -> _
   cases q : allP vs with
   | none => exact fun e => nomatch e
   | some l' => exact fun e => ex2 r fun w r' r => zzC e ▸ ⟨w, r', r.1, r.2.1, ih q r.2.2⟩
  | _ => exact nomatch e
theorem bL9 {es : List Expr} {k : Nat} {pos : Pos} (hx : SimL C P d fz cl es) : SimE C P d fz cl (.Tuple es k pos) where
 bd hK e := (hx pos).bd (fun _ _ _ e => aB e fun _ _ e => aA0 e fun _ e => hK _ _ _ e) e
 sim g hK e k := Tuple_ ((hx _).sim g (fun _ _ _ e => aB e fun _ _ e => aA0 e fun _ e => hK _ _ _ e) e fun vs vals ρ1 m1 c₁ s1 e n1 r1 => aB e fun l hl e => aA0 e fun hz e => by
  have hl' : l.length <= bigN := nT (zzU hz) (by decide)
  have r2 := bV6 hl r1
  exact wpAny_newObj_type (bU5 n1.sh r2 hl' (k.on n1) e) (aL0 r2 hl'))
theorem bZ3 {es : List Expr} {pos : Pos} (hx : SimL C P d fz cl es) : SimE C P d fz cl (.List es pos) where
 bd hK e := (hx pos).bd (fun _ _ _ e => le1 (hK _ _ _ e)) e
 sim g hK e k := List_ ((hx _).sim g (fun _ _ _ e => le1 (hK _ _ _ e)) e fun vs vals ρ1 m1 c₁ s1 e n1 r1 => by
  have hb := hK _ _ _ e
  refine wpAny_newObj_type (k _ _ _ _ _ _ e (n1.trans (Nx.new n1.sh s1.toks (nA _ _) (aB2 _) (aA4 _ _) ?_)) ⟨_, aF6 n1.sh.len, rfl⟩) ?_
  ·unfold lst
   cases hp : allP vs with
   | none => exact ⟨vals, 0, Heap.get?_push_size _ rfl, Reps.mono (Keep.all (aA4 _ _)).d (Grow.one (aB2 _)) _ _ r1, zzE _ _⟩
   | some l => exact ⟨vals, 0, Heap.get?_push_size _ rfl, RepPs.mono (Keep.all (aA4 _ _)).d (Grow.one (aB2 _)).toLess _ _ (bV6 hp r1), (bV6 hp r1).length ▸ r1.length ▸ zzE _ _⟩
  ·show vals.toArray.size <= sizeLine
   rw [zzV, r1.length]; exact nT (nT (zzE _ _) hb) (by decide))
theorem aR1 {o : Expr} {x : Str} {w : Sem Value} (h : bP4 o = true) : attributeBase o x env w = w := by
 cases o with
 | Call f as ks p =>
  cases f with
  | Name id p' =>
   cases as <;> cases ks <;> first | rfl | skip
   have : (id != ("super" : Str)) = true := h
   show (if (((id != ("super" : Str) || _) || _) || _) = true then _ else _) = w
   rw [this]; rfl
  | _ => rfl
 | _ => rfl
theorem aU (S : StaC C P) {o : Expr} {x : Str} {pos : Pos} (ho : SimE C P d fz cl o) : SimE C P d fz cl (.Attribute o x pos) where
 bd hK e := aA0 e fun _ e => ho.bd (fun _ _ _ e => bA0 hK e) e
 sim g hK e k := aA0 e fun hb e => Attribute_any_ (ho.sim g (fun _ _ _ e => bA0 hK e) e fun v v' ρ1 m1 c₁ s1 e n1 r1 => bP3 S n1.sh r1 e (k.on n1)) (by rw [arm_eval_Attribute, aR1 hb])
end
section
variable {C : Cx} {P : PI} {N : Fns} {h : Heap} {ρ : Rho} {m : Mem} {c n d : Nat} {s : Shared} {A : Around} {E : Value -> Shared -> Prop} {K : Kt MV} {Q : Value -> Shared -> Prop} {cl : Orc} {fz : Str -> Bool} {env : Env} {loc : Loc}
theorem bS2 {a k : MV} {a' : Value} (H : Sh C ρ m c s.heap) (ra : Rep C s.heap ρ a a') (e : getI a k K m c) : ∃ T id, s.TypeIs a' T /\ typeLookup (.type T) "__getitem__" = pure (some (.builtin id)) := aA5 e fun y _ e => by
 cases a with
 | p x => exact aG3 e fun l hl _ => aY7 (v := a') (hl ▸ ra) fun x vs n ea hx _ _ => ⟨"tuple", _, ea ▸ ⟨_, hx, rfl⟩, PySem.F.slot_tuple_getitem.lookup⟩
 | obj i =>
  revert e
  show (match m[i]? with | some (.pl l) => _ | some (.list l) => _ | some (.dict es) => _ | _ => False) -> _
  cases hm : m[i]? with
  | none => exact fun e => e.elim
  | some o => cases o with
   | attrs => exact fun e => e.elim
   | dict es => exact fun _ => ex1 ra fun x ra => ex1 (H.cell i x _ ra.1 hm).1.is fun o z => ⟨"dict", _, ra.2 ▸ ⟨o, z.1, z.2.1⟩, PySem.F.slot_dict_getitem.lookup⟩
   | pl l => exact fun _ => ex1 ra fun x ra => ex2 (H.cell i x _ ra.1 hm) fun vs n q => ⟨"list", _, ra.2 ▸ ⟨_, q.1, rfl⟩, PySem.F.slot_list_getitem.lookup⟩
   | list l => exact fun _ => ex1 ra fun x ra => ex2 (H.cell i x _ ra.1 hm) fun vs n q => ⟨"list", _, ra.2 ▸ ⟨_, q.1, rfl⟩, PySem.F.slot_list_getitem.lookup⟩
 | _ => exact e.elim
theorem bG8 {value slice : Expr} {o i : Value} {T id : String} {ops : List Value} (hT : s.TypeIs o T) (hl : typeLookup (.type T) "__getitem__" = pure (some (.builtin id))) (k : wpAny (model C.prog C.w) A (getItem o i) Q E s) (hs : subscripted slice false o i = operate ops (getItem o i)) :
  wpAny (model C.prog C.w) A (subscriptTail value slice o i) Q E s := by
 unfold subscriptTail
 refine wpAny_bind ?_
 rw [getitemInPython_of_ne hT.not_modules]
 refine wpAny_bind (wpAny_specialOf hT hl (wpAny_pure (wpAny_bind ?_)))
 show wpAny (model C.prog C.w) A (subscripted slice false o i) (fun r s3 => wpAny (model C.prog C.w) A (letTemporaryGo value o r >>= fun _ => pure r) Q E s3) E s
 rw [hs]
 exact wpAny_operating (wpAny_mono k (fun r s3 h3 => wpAny_bind (wpAny_letTemporaryGo (wpAny_pure h3))) fun _ _ x => x)
theorem bJ8 {slice : Expr} {o i : Value} (h : aK8 slice = false) : subscripted slice false o i = operate [o, i] (getItem o i) := by
 cases slice <;> first | rfl | exact nomatch h
theorem dA2 {l : List Value} {p : Option Int} {x y : Nat} (hp : (p = none /\ x = 0) ∨ p = some (x : Int)) (hxy : x <= y) : kms_pick l p (some (y : Int)) = (l.drop x).take (y - x) := by
 have hh : kms_hi (some (y : Int)) l.length = min y l.length := by unfold kms_hi; exact if_neg (Int.not_lt.mpr (Int.natCast_nonneg y))
 have hl : kms_lo p l.length = min x l.length := by
  rcases hp with ⟨rfl, rfl⟩ | rfl
  ·exact (Nat.zero_min _).symm
  ·unfold kms_lo; exact if_neg (Int.not_lt.mpr (Int.natCast_nonneg x))
 unfold kms_pick
 rw [hh, hl, <- List.drop_take, <- List.drop_take, <- List.take_eq_take_min]
 by_cases q : x <= l.length
 ·rw [Nat.min_eq_left q]
 ·have q := Nat.le_of_not_le q
  rw [Nat.min_eq_right q, List.drop_eq_nil_of_le (List.length_take_le' _ _), List.drop_eq_nil_of_le (nT (List.length_take_le' _ _) q)]
theorem RepPs.drop {l : List PV} : ∀ {vs : List Value} (n : Nat), RepPs C h ρ l vs -> RepPs C h ρ (l.drop n) (vs.drop n) := by
 induction l with
 | nil => exact fun n r => by rw [show _ = [] from r, List.drop_nil, List.drop_nil]; rfl
 | cons x l ih =>
  intro vs n r
  obtain ⟨v, r', rfl, r1, r2⟩ := r
  cases n with
  | zero => exact ⟨v, r', rfl, r1, r2⟩
  | succ n => exact ih n r2
theorem bE3 {x : Addr} {l : List PV} {vs : List Value} {lo : MV} {vl vu : Value} {p q : Nat} {value : Expr} {elo ehi : Option Expr} {pos : Pos} (H : Sh C ρ m c s.heap) (hx : s.heap.IsList x vs.toArray) (r : RepPs C s.heap ρ l vs) (hz : l.length <= bigN)
  (rl : Rep C s.heap ρ lo vl) (ru : Rep C s.heap ρ (i_ q) vu) (hp : (lo = n_ /\ p = 0) ∨ lo = i_ p) (hpq : p <= q) (e : K (.obj m.length) (m ++ [.pl ((l.drop p).take (q - p))]) (c + (q - p))) (k : Out C ρ s K Q) :
  wpAny (model C.prog C.w) A (subscriptTail value (.Slice elo ehi none pos) (.ref x) (.ref s.heap.objs.size)) Q E { s with heap := s.heap.push { cls := .type "slice", data := .fields #[vl, vu, .none] } } := by
 have hpx := hx.push { cls := .type "slice", data := .fields #[vl, vu, .none] }
 obtain ⟨p1, ip, hp1⟩ : ∃ p1, IsPart vl p1 /\ ((p1 = none /\ p = 0) ∨ p1 = some (p : Int)) := by
  rcases hp with ⟨rfl, rfl⟩ | rfl
  ·exact ⟨none, (show vl = _ from rl) ▸ IsPart.none, .inl ⟨rfl, rfl⟩⟩
  ·exact ex1 rl fun t e => ⟨some p, e ▸ IsPart.int _ _, .inr rfl⟩
 refine bG8 (Heap.IsList.typeIs (s := { s with heap := s.heap.push { cls := .type "slice", data := .fields #[vl, vu, .none] } }) hpx) list_getitem_lookup ?_ rfl
 refine wpAny_getItem_list_slice hpx (Heap.IsSliceOf.new ..) ip (ex1 ru fun t e => e ▸ IsPart.int (q : Int) t) .none (by simp) ?_ (aL0 r hz)
 have n1 : Nx C ρ s m c ρ { s with heap := s.heap.push { cls := .type "slice", data := .fields #[vl, vu, .none] } } := Nx.ext H s.toks (nR c) (aA4 _ _)
 have rd := ((r.drop p).take (q - p)).mono n1.keep.d n1.grow.toLess
 rw [kms_pick_eq, show kms_pick vs.toArray.toList p1 (some (q : Int)) = _ from dA2 hp1 hpq]
 exact cH8 n1.sh (nA _ _) rd (nT (List.length_take_le _ _) (zzE _ _)) (OutG.on n1 k) e
theorem cV3 {o i : Expr} {pos : Pos} (ho : SimE C P d fz cl o) (hi : SimE C P d fz cl i) (hs : aK8 i = false) : SimE C P d fz cl (.Subscript o i pos) where
 bd hK e := ho.bd (fun _ _ _ e => br_e e (fun q => nomatch q.symm.trans hs) fun _ e => hi.bd (fun _ _ _ e => aS3 hK e) e) e
 sim g hK e k := Subscript_ (ho.sim g (fun _ _ _ e => br_e e (fun q => nomatch q.symm.trans hs) fun _ e => hi.bd (fun _ _ _ e => aS3 hK e) e) e fun x x' ρ1 m1 c₁ s1 e n1 r1 => br_e e (fun q => nomatch q.symm.trans hs) fun _ e => hi.sim (g.next n1) (fun _ _ _ e => aS3 hK e) e fun y y' ρ2 m2 c2 s2 e n2 r2 =>
  ex2 (bS2 n2.sh (n2.rep r1) e) fun T id z => bG8 z.1 z.2 (bV8 g.cmp n2.sh (n2.rep r1) r2 e (k.on (n1.trans n2))) (bJ8 hs))
theorem bd_W {lo hi st : Option Expr} {p : Pos} {o : MV} {sc : Scope} {loc : Loc} {m : Mem} {c : Nat} (hl : SimO C P d fz cl lo) (hh : SimO C P d fz cl hi) (hK : Bd K) (e : evW P fz cl (.Slice lo hi st p) sc loc (fun w => dA3 o w.1 w.2 K) m c) : c <= bigN :=
 aA0 e fun _ e => hl.bd (fun _ _ _ e => hh.bd (fun _ _ _ e => aU3 hK e) e) e
theorem aY4 {o : Expr} {lo hi st : Option Expr} {p pos : Pos} (ho : SimE C P d fz cl o) (hl : SimO C P d fz cl lo) (hh : SimO C P d fz cl hi) : SimE C P d fz cl (.Subscript o (.Slice lo hi st p) pos) where
 bd hK e := ho.bd (fun _ _ _ e => bd_W (p := p) hl hh hK e) e
 sim {env A ρ m c loc s K E Q} g hK e k := Subscript_ (ho.sim g (fun _ _ _ e => bd_W (p := p) hl hh hK e) e fun x x' ρ1 m1 c₁ s1 e n1 r1 => aA0 (b := st.isNone) e fun hst e => by
  obtain rfl := Option.isNone_iff_eq_none.mp hst
  refine wpAny_Slice (hl.sim (g.next n1) (fun _ _ _ e => hh.bd (fun _ _ _ e => aU3 hK e) e) e fun l l' ρ2 m2 c2 s2 e n2 r2 => hh.sim ((g.next n1).next n2) (fun _ _ _ e => aU3 hK e) e fun u u' ρ3 m3 c3 s3 e n3 r3 => wpAny_of_eq (evalPart_none env) ?_)
  have r1' := n3.rep (n2.rep r1)
  have k := k.on ((n1.trans n2).trans n3)
  refine cH9 e fun p hp e => aA5 e fun y hy e => aE1 e fun y' hy' e => aU2 e fun q hq _ e => aA0 e fun hpq e9 => ?_
  subst hy hy' hq
  have hpq := zzU hpq
  cases x with
  | frz l => exact ex2 r1' fun a vs r => r.1 ▸ bE3 n3.sh r.2.1 r.2.2.2.2 r.2.2.2.1 (n3.rep r2) r3 hp hpq e9 k
  | obj i => exact aC9 e9 fun l hm e9 => aI4 n3.sh r1' hm fun a vs n ea eb ha r lc => eb ▸ bE3 n3.sh (aB6 ha) r (nT lc (le1 (hK _ _ _ e9))) (n3.rep r2) r3 hp hpq e9 k
  | _ => exact e9.elim)
theorem aV2 : SimO C P d fz cl none := ⟨fun hK e => hK _ _ _ e, fun g hK e k => wpAny_pure (dG5 g.a.sh k e)⟩
theorem aX1 {x : Expr} (hx : SimE C P d fz cl x) : SimO C P d fz cl (some x) := ⟨fun hK e => hx.bd hK e, fun g hK e k => hx.sim g hK e k⟩
theorem aV8 {args : List Expr} {f : Callee} {v : Value} {first : List Value} {pos : Pos} (S : StaF C P N) (hcl : Snd C N d cl) (g : Cfg C d env A ρ m c loc s) (hargs : SimL C P d fz cl args) (hp : args.all aS6 = true)
  (rc : RepC C N s.heap ρ f v first) (hb : Mk P f) (hK : Bd K) (e : evL P fz cl args env.scope loc (fun vs => runC P fz cl f vs K) m c) (k : Out C ρ s K Q) : wpAny (model C.prog C.w) A (callWith pos v first (backTo pos (starEach args env)) []) Q E s :=
 aP1 S rc hb (bB9 hp) ((hargs _).sim g (fun _ _ _ e => cI hcl hK e) e fun vs vals ρ1 m1 c₁ s1 e n1 r1 => ⟨S.kin.keeps n1.sh.keep0, dT4 S hcl g.r n1.sh (rc.next n1) r1 e hK (OutG.on n1 k)⟩)
theorem bR4 {args : List (Bool × Sem Value)} (h : args.any (·.1) = false) : args.all (fun x => !x.1) = true := by
 induction args with
 | nil => rfl
 | cons x r ih =>
  rw [List.any_cons, Bool.or_eq_false_iff] at h
  rw [List.all_cons, h.1, ih h.2]; rfl
theorem bC {args : List Expr} {f : Callee} {sc : Scope} {loc : Loc} (hcl : Snd C N d cl) (hargs : SimL C P d fz cl args) (hK : Bd K) {m : Mem} {c : Nat} (e : evL P fz cl args sc loc (fun vs => runC P fz cl f vs K) m c) : c <= bigN := (hargs default).bd (fun _ _ _ e => cI hcl hK e) e
theorem bL3 (S : StaF C P N) (hcl : Snd C N d cl) {x : Str} {p pos : Pos} {args : List Expr} (hargs : SimL C P d fz cl args) : SimE C P d fz cl (.Call (.Name x p) args [] pos) where
 bd {sc loc K m c} hK e := aA0 e fun _ e => bd_N (fun _ _ _ e => cZ3 (fun _ _ _ e => bC hcl hargs hK e) e) (show evN P sc x loc (fun a => getC P a (fun f => evL P fz cl args sc loc (fun vs => runC P fz cl f vs K))) m c from e)
 sim g hK e k := aA0 e fun q e => aA q fun _ q => aA q fun _ q => Call_Name rfl (bB5 S.toSta g.O g.a e fun f f' ρ1 m1 c₁ s1 e n1 r1 => cV9 S r1 e fun f e hb rc => aV8 S hcl (g.next n1) hargs q rc hb hK e (k.on n1))
theorem bP5 (S : StaF C P N) (hcl : Snd C N d cl) {o : Expr} {x : Str} {ap pos : Pos} {args : List Expr} (ho : SimE C P d fz cl o) (hargs : SimL C P d fz cl args) : SimE C P d fz cl (.Call (.Attribute o x ap) args [] pos) where
 bd hK e := aA0 e fun _ e => aA0 e fun _ e => ho.bd (fun _ _ _ e => bR6 (fun _ _ _ e => bC hcl hargs hK e) e) e
 sim {env A ρ m c loc s K E Q} g hK e k := aA0 e fun q e => aA q fun _ q => aA q fun q1 q2 => aA0 e fun q e => aA q fun hb hline => by
  rw [arm_eval_Call, aR1 hb]
  refine wpAny_bind (ho.sim g (fun _ _ _ e => bR6 (fun _ _ _ e => bC hcl hargs hK e) e) e fun f f' ρ1 m1 c₁ s1 e n1 r1 => wpAny_bind (wpAny_standAt ?_))
  have hform : methodCallForm (args.length + ([] : List Keyword).length) (backTo pos (starEach args env)) (backToKw pos (keywordEach [] env)) = true := by
   unfold methodCallForm
   rw [bR4 (bB9 q2)]
   show decide (args.length + 0 + 0 < 30) = true
   exact decide_eq_true (Nat.lt_succ_of_lt (zzU q1))
  have hpos : methodCallPos true o env ap pos = pure pos := by unfold methodCallPos; simp [hline]
  unfold methodCall
  rw [hform]
  exact wpAny_bind (wpAny_holding (cT4 S n1.sh r1 e fun f v first m2 c2 e sh hb rc => wpAny_bind (wpAny_of_eq hpos (aV8 S hcl ⟨g.O, ⟨sh, (g.a.next n1).lo, (g.a.next n1).ce, (g.a.next n1).nl, g.a.n0⟩, g.r⟩ hargs q2 rc hb hK e (k.on n1)))))
end
section
variable {C : Cx} {P : PI} {h h' : Heap} {ρ : Rho} {m : Mem} {c n d : Nat} {s : Shared} {A : Around} {E : Value -> Shared -> Prop} {K : Kt MV} {Q : Value -> Shared -> Prop} {cl : Orc} {fz : Str -> Bool} {env : Env} {loc : Loc}
noncomputable def aY5 (pos : Pos) (env : Env) : List (Option Expr) -> List Expr -> List (Sem Value × Sem Value)
 | some k :: ks, v :: vs => (PySem.eval k env, do let x <- PySem.eval v env; standAt pos; pure x) :: aY5 pos env ks vs
 | _, _ => []
noncomputable def RepD (C : Cx) (h : Heap) (ρ : Rho) : List (PV × MV) -> List (Value × Value) -> Prop
 | [], prs => prs = []
 | x :: r, prs => ∃ a b r', prs = (a, b) :: r' /\ RepP C h ρ x.1 a /\ Rep C h ρ x.2 b /\ RepD C h ρ r r'
theorem bC5 {pos : Pos} {ks : List (Option Expr)} : ∀ {vs : List Expr}, bE6 ks vs = true -> ((evalEachOpt ks env).zip ((evalEach vs env).map fun v => do let x <- v; standAt pos; pure x) = (aY5 pos env ks vs).map fun p => (some p.1, p.2)) /\ (aY5 pos env ks vs).length = ks.length := by
 induction ks with
 | nil =>
  intro vs q
  cases vs with
  | nil => exact ⟨rfl, rfl⟩
  | cons => exact nomatch q
 | cons k ks ih =>
  intro vs q
  cases vs with
  | nil => exact nomatch q
  | cons v vs => cases k with
   | none => exact nomatch q
   | some k => exact ⟨congrArg (_ :: ·) (ih q).1, congrArg (· + 1) (ih q).2⟩
theorem bd_D {ks : List (Option Expr)} (hk : ∀ k ∈ ks, SimO C P d fz cl k) : ∀ {vs : List Expr} {sc : Scope} {loc : Loc} {K : Kt (List (PV × MV))} {m : Mem} {c : Nat}, (∀ v ∈ vs, SimE C P d fz cl v) -> Bd K -> evD P fz cl ks (evVs P fz cl vs sc loc) sc loc K m c -> c <= bigN := by
 induction ks with
 | nil =>
  intro vs sc loc K m c hv hK e
  cases vs with
  | nil => exact hK _ _ _ e
  | cons => exact nO e
 | cons k ks ih =>
  intro vs sc loc K m c hv hK e
  cases vs with
  | nil => exact nO e
  | cons v vs => exact (hk k (.head _)).bd (fun a _ _ e => (hv v (.head _)).bd (fun b _ _ e => aA5 e fun _ _ e => ih (fun k q => hk k (.tail _ q)) (fun v q => hv v (.tail _ q)) (fun _ _ _ e => hK _ _ _ e) e) e) e
theorem bS1 {pos : Pos} {ks : List (Option Expr)} (hk : ∀ k ∈ ks, SimO C P d fz cl k) : ∀ {vs : List Expr} {ρ : Rho} {m : Mem} {c : Nat} {s : Shared} {K : Kt (List (PV × MV))} {Q : List (Value × Value) -> Shared -> Prop}, (∀ v ∈ vs, SimE C P d fz cl v) -> bE6 ks vs = true -> Cfg C d env A ρ m c loc s -> Bd K ->
  evD P fz cl ks (evVs P fz cl vs env.scope loc) env.scope loc K m c -> OutG C (RepD C) ρ s K Q -> wpAny (model C.prog C.w) A (evalPairs (aY5 pos env ks vs)) Q E s := by
 induction ks with
 | nil =>
  intro vs ρ m c s K Q hv q g hK e k
  cases vs with
  | nil => exact wpAny_pure (k _ _ _ _ _ _ e (Nx.refl g.a.sh) rfl)
  | cons => exact nomatch q
 | cons ko ks ih =>
  intro vs ρ m c s K Q hv q g hK e k
  cases vs with
  | nil => exact nomatch q
  | cons v vs => cases ko with
   | none => exact nomatch q
   | some kx =>
    have hv' : ∀ v ∈ vs, SimE C P d fz cl v := fun v q => hv v (.tail _ q)
    have hk' : ∀ k ∈ ks, SimO C P d fz cl k := fun k q => hk k (.tail _ q)
    have b2 : ∀ {a : MV}, Bd (fun b m c => onP a fun a => evD P fz cl ks (evVs P fz cl vs env.scope loc) env.scope loc (fun r => K ((a, b) :: r)) m c) := fun b _ _ e => aA5 e fun _ _ e => bd_D hk' hv' (fun _ _ _ e => hK _ _ _ e) e
    show wpAny _ A (do
     let kv <- PySem.eval kx env
     let vv <- holding [kv] (do let x <- PySem.eval v env; standAt pos; pure x)
     return (kv, vv) :: (<- holding [kv, vv] (evalPairs (aY5 pos env ks vs)))) Q E s
    refine wpAny_bind ((hk _ (.head _)).sim g (fun a _ _ e => (hv v (.head _)).bd b2 e) e fun a a' ρ1 m1 c₁ s1 e n1 r1 => wpAny_bind (wpAny_holding (wpAny_bind ((hv v (.head _)).sim (g.next n1) b2 e fun b b' ρ2 m2 c2 s2 e n2 r2 => wpAny_bind (wpAny_standAt (wpAny_pure ?_))))))
    refine aA5 e fun x hx e => ?_
    subst hx
    exact wpAny_bind (wpAny_holding (ih hk' hv' q ((g.next n1).next n2) (fun _ _ _ e => hK _ _ _ e) e fun us prs ρ3 m3 c3 s3 e n3 r3 => wpAny_pure (k _ _ _ _ _ _ e ((n1.trans n2).trans n3) ⟨_, _, _, rfl, n3.rep (x := .p x) (n2.rep (x := .p x) r1), n3.rep r2, r3⟩)))
theorem bI {knd : PySem.KeyKind C.prog C.w PV} {a : Addr} (e : h.get? a = some { cls := .type "dict", data := .dict #[] }) : h.DictOf knd a [] :=
 ⟨_, #[], 0, e, ⟨rfl, rfl, rfl⟩, rfl, fun _ q => by simp at q, .nil, List.nodup_nil⟩
theorem bI0 {a : Addr} (e : h.get? a = some { cls := .type "dict", data := .dict #[] }) : DictOk C h ρ a [] :=
 ⟨⟨_, e, rfl, rfl, #[], 0, rfl⟩, fun _ _ _ => ⟨[], bI e, rfl⟩, fun _ => ⟨[], ⟨_, #[], 0, e, ⟨rfl, rfl, rfl⟩, rfl, rfl, fun _ hx => (nomatch hx), List.nodup_nil⟩, rfl⟩⟩
theorem cM1 {k : PV} {v : Value} (hn : n < 2) (q : cO6 n k = true) (r : RepP C h ρ k v) : isAt n k v = true := by
 have z := (aD3 q).2
 cases k with
 | int i => exact ex1 r fun t e => by subst z e; exact beq_self_eq_true i
 | str i => exact ex1 r fun t e => by subst z e; exact beq_self_eq_true i
 | tup => subst z; exact absurd hn (Nat.lt_irrefl 2)
 | _ => exact aA q fun _ q => nomatch q
theorem cY (hn : n < 2) {us : List (PV × MV)} : ∀ {prs : List (Value × Value)}, allK n us = true -> RepD C h ρ us prs -> ∃ kvs, Carries (aC3 C n) prs kvs /\ PairK C h ρ us kvs := by
 induction us with
 | nil => exact fun _ r => (show _ = [] from r) ▸ ⟨[], trivial, rfl⟩
 | cons x us ih => exact fun q r => aA q fun q1 q2 => ex3 r fun a b r' r => ex1 (ih q2 r.2.2.2) fun kvs z => r.1 ▸ ⟨(x.1, b) :: kvs, ⟨cM1 hn q1 r.2.1, rfl, z.1⟩, b, kvs, rfl, r.2.2.1, z.2⟩
theorem aX {K : Type} [DecidableEq K] {k : K} {v : Value} {kvs : List (K × Value)} (n : (kvs.map (·.1)).Nodup) : ((stored kvs k v).map (·.1)).Nodup := by
 unfold stored
 by_cases q : kvs.any (fun kv => decide (kv.1 = k)) = true
 ·rw [if_pos q, List.map_map, show kvs.map ((·.1) ∘ fun kv => if kv.1 = k then (kv.1, v) else kv) = kvs.map (·.1) from List.map_congr_left fun x _ => by
   show (if x.1 = k then (x.1, v) else x).1 = x.1
   split <;> rfl]
  exact n
 ·rw [if_neg q, List.map_append, List.nodup_append]
  exact ⟨n, List.pairwise_singleton _ _, fun a ha b hb z => q (List.any_eq_true.mpr (ex1 (List.mem_map.mp ha) fun x hx => ⟨x, hx.1, decide_eq_true (hx.2.trans (z.trans (zzJ.mp hb)))⟩))⟩
theorem cR6 (hn : n < 2) {us : List (PV × MV)} : ∀ {kvs : List (PV × Value)} {es : List (PV × MV)} {acc : List (PV × Value)}, (acc.map (·.1)).Nodup -> allK n es = true -> allK n us = true -> PairK C h ρ es acc -> PairK C h ρ us kvs ->
  PairK C h ρ (us.foldl (fun d e => dput e.1 e.2 d) es) (merged acc kvs) /\ allK n (us.foldl (fun d e => dput e.1 e.2 d) es) = true /\ (us.foldl (fun d e => dput e.1 e.2 d) es).length <= es.length + us.length := by
 induction us with
 | nil => exact fun nd a _ p q => (show _ = [] from q) ▸ ⟨p, a, nR _⟩
 | cons x us ih =>
  exact fun nd a b p q => aA b fun b1 b2 => ex2 q fun v r q => by
   obtain ⟨z1, z2⟩ := aD3 b1
   have := ih (aX (k := x.1) (v := v) nd) (z2 ▸ aD2 z1 (z2.symm ▸ a)) b2 (PairK.put z1 q.2.1 nd a p) q.2.2
   exact q.1 ▸ ⟨this.1, this.2.1, nT this.2.2 (nT (zzS aS0 _) (Nat.le_of_eq (Nat.add_right_comm _ 1 _)))⟩
theorem cX2 {us : List (PV × MV)} : ∀ {es : List (PV × MV)}, (us ≠ [] ∨ es ≠ []) -> us.foldl (fun d e => dput e.1 e.2 d) es ≠ [] := by
 induction us with
 | nil => exact fun q => q.elim (fun q => absurd rfl q) id
 | cons x us ih => exact fun _ => ih (.inr bN3)
theorem aS5 {ks : List (Option Expr)} : keyN ks < 2 := by
 cases ks with
 | nil => exact Nat.zero_lt_two
 | cons k _ => cases k with
  | none => exact Nat.zero_lt_two
  | some e => cases e with
   | Constant q _ _ => cases q <;> first | exact Nat.zero_lt_two | exact Nat.one_lt_two
   | _ => exact Nat.zero_lt_two
theorem bM5 {i : Nat} {us : List (PV × MV)} (hK : Bd K) (e : bG6 n i us K m c) : c <= bigN := aA0 e fun _ e => aZ6 e fun es _ e => by
 cases es with
 | nil => exact le1 (hK _ _ _ e)
 | cons => exact e.elim
theorem bY5 {ks : List (Option Expr)} {vs : List Expr} {pos : Pos} (hk : ∀ k ∈ ks, SimO C P d fz cl k) (hv : ∀ v ∈ vs, SimE C P d fz cl v) : SimE C P d fz cl (.Dict ks vs pos) where
 bd hK e := br_e e (fun _ e => aA0 e fun _ e => hK _ _ _ e) fun _ e => aA0 e fun _ e => bd_D hk hv (fun _ _ _ e => bM5 hK e) e
 sim {env A ρ m c loc s K E Q} g hK e k := by
  have n0 : Nx C ρ s (m ++ [.dict []]) c (ρ.new s.heap.objs.size) { s with heap := s.heap.push { cls := .type "dict", data := .dict #[] } } := Nx.new (o := .dict []) g.a.sh s.toks (nR c) (aB2 _) (aA4 _ _) ⟨bI0 (Heap.get?_push_size _ rfl), zzN _⟩
  have hi : (ρ.new s.heap.objs.size).a[m.length]? = some s.heap.objs.size := aF6 g.a.sh.len
  refine br_e e (fun q e => aA0 e fun q2 e => ?_) fun hq e => aA0 e fun q2 e => aA q2 fun q ql => ?_
  ·cases List.isEmpty_iff.mp q
   cases List.isEmpty_iff.mp q2
   exact wpAny_Dict_empty (k _ _ _ _ _ _ e n0 ⟨_, hi, rfl⟩)
  ·have sp := bC5 (env := env) (pos := pos) q
   refine wpAny_Dict_pairs (knd := aC3 C (keyN ks)) sp.1 (fun z => by rw [z] at sp; rw [List.length_eq_zero_iff.mp sp.2.symm] at hq; exact nomatch hq) (sp.2 ▸ zzU ql) (bS1 hk hv q (g.next n0) (fun _ _ _ e => bM5 hK e) e fun us prs ρ1 m1 c₁ s1 e n1 rp => aA0 e fun ha e => aA ha fun ha hu => aZ6 e fun es hm e9 => ?_)
   cases es with
   | cons => exact e9.elim
   | nil =>
    have ei := n1.grow.at_ hi
    have D := n1.sh.cell _ _ _ ei hm
    refine ex1 (cY aS5 ha rp) fun kvs hc => ⟨kvs, hc.1, ex1 (D.1.kk (keyN ks) aS5 rfl) fun kv0 z => (show kv0 = [] from z.2) ▸ z.1, fun h' hm' hs => ?_⟩
    have f := cR6 aS5 (es := []) (acc := []) List.nodup_nil rfl ha rfl hc.2
    refine k _ _ _ _ _ _ e9 (n0.trans (n1.trans (Nx.upd (o' := .dict (us.foldl (fun d e => dput e.1 e.2 d) [])) n1.sh _ (nA _ _) ei hs ?_))) ⟨_, ei, rfl⟩
    refine ⟨bD0 aS5 hm' (f.1.mono (SameBut.keep ei hs).d Grow.refl) f.2.1 (cX2 (.inl fun z => ?_)), nT f.2.2 (by rw [List.length_nil]; lia)⟩
    rw [z] at hu; exact nomatch hu
end
noncomputable def clos (env : Env) : List (Str × NameKind) -> List (Str × Addr) -> List (Str × Addr)
 | [], cs => cs
 | x :: r, cs => match x.2 == .free with
  | true => (match env.cells.lookup x.1 with
   | some c => clos env r ((x.1, c) :: cs)
   | none => cs)
  | false => clos env r cs
section
variable {env : Env}
theorem bQ5 {x : NameKind} {g : Prop} (f : x = .free -> g) (f' : (x == NameKind.free) = false -> g) : g := by
 cases x <;> first | exact f rfl | exact f' rfl
theorem bO7 {l : List (Str × NameKind)} : ∀ {cs : List (Str × Addr)}, (∀ n, (n, NameKind.free) ∈ l -> ∃ c, env.cells.lookup n = some c) -> (∀ n c, cs.lookup n = some c -> env.cells.lookup n = some c) ->
  ∀ n, ((n, NameKind.free) ∈ l ∨ (cs.lookup n).isSome = true) -> (clos env l cs).lookup n = env.cells.lookup n := by
 induction l with
 | nil => exact fun _ h n q => q.elim (fun q => nomatch q) fun q => ex1 (Option.isSome_iff_exists.mp q) fun c hc => hc.trans (h _ _ hc).symm
 | cons x r ih =>
  obtain ⟨y, k⟩ := x
  intro cs hf h n q
  refine bQ5 (x := k) (fun hk => ?_) fun hk => ?_
  ·subst hk
   refine ex1 (hf y (.head _)) fun c hc => ?_
   show (match env.cells.lookup y with | some c => clos env r ((y, c) :: cs) | none => cs).lookup n = _
   rw [hc]
   refine ih (fun n hn => hf n (.tail _ hn)) (fun n c' e => ?_) n ?_
   ·rw [zzQ] at e
    by_cases qn : n = y
    ·subst qn; rw [beq_self_eq_true] at e; exact zzC e ▸ hc
    ·rw [beq_false_of_ne qn] at e; exact h _ _ e
   ·refine q.elim (fun q => (List.mem_cons.mp q).elim (fun q => .inr ?_) .inl) fun q => .inr ?_
    ·rw [zzQ, beq_iff_eq.mpr (Prod.mk.inj q).1]; rfl
    ·rw [zzQ]
     cases n == y with
     | true => rfl
     | false => exact q
  ·show (match k == NameKind.free with | true => _ | false => clos env r cs).lookup n = _
   rw [hk]
   exact ih (fun n hn => hf n (.tail _ hn)) h n (q.elim (fun q => (List.mem_cons.mp q).elim (fun q => by rw [<- (Prod.mk.inj q).2] at hk; exact nomatch hk) .inl) .inr)
theorem aR0 {scope : Scope} (h : ∀ n, (n, NameKind.free) ∈ scope.names -> ∃ c, env.cells.lookup n = some c) : closureFor scope env = pure (clos env scope.names []) := by
 have key : ∀ (l : List (Str × NameKind)) (cs : List (Str × Addr)), (∀ n, (n, NameKind.free) ∈ l -> ∃ c, env.cells.lookup n = some c) ->
   (forIn l cs fun (x : Str × NameKind) (r : List (Str × Addr)) => (do
    if x.2 == .free then
     let c <- cellOf env x.1
     pure (ForInStep.yield ((x.1, c) :: r))
    else pure (ForInStep.yield r) : Sem (ForInStep (List (Str × Addr))))) = (pure (clos env l cs) : Sem _) := by
  intro l
  induction l with
  | nil => intro cs _; rw [List.forIn_nil]; rfl
  | cons x l ih =>
   intro cs hl
   obtain ⟨n, k⟩ := x
   rw [List.forIn_cons]
   refine bQ5 (x := k) (fun hk => ?_) fun hk => ?_
   ·subst hk
    refine ex1 (hl n (.head _)) fun c hc => ?_
    have e1 : cellOf env n = pure c := by unfold cellOf; rw [hc]
    rw [if_pos (show ((n, NameKind.free).snd == NameKind.free) = true from rfl), e1]
    show forIn l ((n, c) :: cs) _ = (pure (match env.cells.lookup n with | some c => clos env l ((n, c) :: cs) | none => cs) : Sem _)
    rw [ih _ (fun n hn => hl n (.tail _ hn)), hc]
   ·rw [if_neg (show ¬((n, k).snd == NameKind.free) = true from fun z => nomatch z.symm.trans hk)]
    show forIn l cs _ = (pure (match k == NameKind.free with | true => _ | false => clos env l cs) : Sem _)
    rw [ih _ (fun n hn => hl n (.tail _ hn)), hk]
 unfold closureFor
 refine Eq.trans (congrArg (fun m : Sem (List (Str × Addr)) => m >>= fun r => pure r) (Eq.trans ?_ (key scope.names [] h))) rfl
 congr 1
theorem aO0 {f : Str -> Bool} {y : Str} {v : MV} {l : Loc} : (l.filter fun p => f p.1).lookup y = some v -> f y = true /\ l.lookup y = some v := by
 induction l with
 | nil => exact fun e => nomatch e
 | cons x l ih =>
  rw [List.filter_cons, zzQ]
  by_cases q : y = x.1
  ·rw [beq_iff_eq.mpr q]
   by_cases hx : f x.1 = true
   ·rw [if_pos hx, zzQ, beq_iff_eq.mpr q]; exact fun e => ⟨q ▸ hx, e⟩
   ·rw [if_neg hx]; exact fun e => absurd (q ▸ (ih e).1) hx
  ·rw [beq_false_of_ne q]
   by_cases hx : f x.1 = true
   ·rw [if_pos hx, zzQ, beq_false_of_ne q]; exact ih
   ·rw [if_neg hx]; exact ih
theorem bJ5 {y : Str} {f : Str -> NameKind -> Bool} {l : List (Str × NameKind)} : (l.map fun p => if f p.1 p.2 then (p.1, NameKind.cell) else (p.1, p.2)).lookup y = (l.lookup y).map fun k => if f y k then NameKind.cell else k := by
 induction l with
 | nil => rfl
 | cons x l ih =>
  rw [List.map_cons, zzQ, show (if f x.1 x.2 = true then (x.1, NameKind.cell) else (x.1, x.2)) = (x.1, if f x.1 x.2 = true then NameKind.cell else x.2) by split <;> rfl, zzQ]
  by_cases q : y = x.1
  ·rw [beq_iff_eq.mpr q, q]; rfl
  ·rw [beq_false_of_ne q]; exact ih
theorem bC6 {x : Str} {k : NameKind} {l : List (Str × NameKind)} : l.lookup x = some k -> (x, k) ∈ l := by
 induction l with
 | nil => exact fun e => nomatch e
 | cons y l ih =>
  rw [zzQ]
  by_cases q : x = y.1
  ·rw [beq_iff_eq.mpr q]; exact fun e => q ▸ zzC e ▸ .head _
  ·rw [beq_false_of_ne q]; exact fun e => .tail _ (ih e)
end
section
variable {C : Cx} {P : PI} {h h' : Heap} {ρ ρ' ρ'' : Rho} {m m' m'' : Mem} {c c' c'' n : Nat} {s s' s'' : Shared} {K : Kt MV} {cl : Orc} {fz : Str -> Bool} {env : Env} {loc : Loc}
theorem aL7 {i : Expr} {sc : Scope} (e : evE P fz cl i sc loc K m c) (x : Value) : foldedSetIterable i env x = pure x := by
 cases i <;> first | rfl | exact nO e
theorem Afr.but (a : Afr C env ρ m c loc s) {it : Addr} {o : Obj} {t : Nat} (ho : s.heap.get? it = some o) (hi : aD0 o = false) (n0 : C.h₀.get? it = none) (nl : it ∉ ρ.a /\ it ∉ ρ.f) (ne : it ≠ env.locals) (hs : Heap.ExtBut it s.heap h') : aF1 ρ s.heap h' /\ Afr C env ρ m c loc { s with heap := h', toks := t } := by
 have ks := a.sh.but ho hi n0 nl.1 nl.2 hs
 refine ⟨ks.1, ks.2, ex1 a.lo fun f l => ⟨f, ex3 l.1 fun o es ep q => ⟨o, es, ep, hs _ _ (Ne.symm ne) q.1, q.2⟩, fun x v e k => ex1 (l.2 x v e k) fun v' q => ⟨v', q.1, Rep.mono ks.1 Grow.refl _ _ q.2⟩⟩, fun x v e k => ex2 (a.ce x v e k) fun q v' r => ex1 r.2.1 fun o' z => ⟨q, v', r.1, ⟨o', hs _ _ (fun w => ?_) z.1, z.2⟩, r.2.2.1, Rep.mono ks.1 Grow.refl _ _ r.2.2.2⟩, a.nl, a.n0⟩
 subst w
 cases ho.symm.trans z.1
 unfold aD0 at hi; rw [z.2] at hi; cases hi
theorem Nx.step (n : Nx C ρ s m' c' ρ' s') (sh : Sh C ρ'' m'' c'' s''.heap) (k : ∀ b o x, s.heap.get? b = some x -> s'.heap.get? b = some o -> b ∉ ρ'.a -> s''.heap.get? b = some o) (g : Grow ρ' ρ'' s'.heap) (e1 : s''.gens = s'.gens) (e2 : s''.drawn = s'.drawn) (e3 : s''.os = s'.os) : Nx C ρ s m'' c'' ρ'' s'' :=
 ⟨sh, fun b o e q => k b o o e (n.keep b o e q) (n.grow.out b o e q), Grow.trans n.keep n.all n.grow g, e1.trans n.gens, e2.trans n.drawn, e3.trans n.os⟩
theorem aP0 {o o' : Obj} {it L : Addr} (ho : h.get? it = some o) (hd : ∃ vs, o.data = .fields vs) (eL : h.get? L = some o') (dL : ∃ es n, o'.data = .dict es n) : it ≠ L := fun q => by
 subst q
 cases ho.symm.trans eL
 exact ex1 hd fun vs e => ex2 dL fun es n e' => nomatch e.symm.trans e'
theorem Afr.dict (a : Afr C env ρ m c loc s) : ∃ o, s.heap.get? env.locals = some o /\ ∃ es n, o.data = .dict es n := ex1 a.lo fun f l => ex3 l.1 fun o es ep q => ⟨o, q.1, es, ep, q.2.1⟩
end
noncomputable abbrev bS7 (P : PI) (fz : Str -> Bool) (cl : Orc) (x : Str) (elt : Expr) (sc : Scope) (v : MV) (loc : Loc) : PT (MV × Loc) := fun K m c => setN sc x v loc fun loc' => evE P fz cl elt sc loc' (fun y => K (y, loc')) m c
section
variable {C : Cx} {P : PI} {h' : Heap} {ρ ρ' : Rho} {m m' : Mem} {c c' n d : Nat} {s s' : Shared} {A : Around} {K : Kt MV} {cl : Orc} {fz : Str -> Bool} {loc loc' : Loc}
theorem cK0 {elt : Expr} {x : Str} {sc : Scope} {i : Nat} {K : Mem -> Nat -> Prop} {v : PV} {l : List PV} (e : aZ9 (bS7 P fz cl x elt sc) i K (v :: l) loc m c) :
  setN sc x (.p v) loc fun loc' => evE P fz cl elt sc loc' (fun y m c => onP y fun y => atP m[i]? fun l' => aZ9 (bS7 P fz cl x elt sc) i K l loc' (m.set i (.pl (l' ++ [y]))) (c + 1)) m c := e
theorem aU4 {elt : Expr} {x : Str} {sc : Scope} {i : Nat} {K : Mem -> Nat -> Prop} (he : SimE C P d fz cl elt) (hK : ∀ m c, K m c -> c <= bigN) {l : List PV} : ∀ {loc : Loc} {m : Mem} {c : Nat}, aZ9 (bS7 P fz cl x elt sc) i K l loc m c -> c <= bigN := by
 induction l with
 | nil => exact fun e => hK _ _ e
 | cons v l ih => exact fun e => aR5 (cK0 e) fun _ e => he.bd (fun _ _ _ e => aA5 e fun _ _ e => aC9 e fun _ _ e => le1 (ih e)) e
theorem bU9 {cenv : Env} {elt iter : Expr} {x : Str} {px pos : Pos} {scope : Scope} {t it D : Addr} {n i : Nat} {l : List PV} {vs : List Value} {R : Result -> Shared -> Prop} {s1 s4 : Shared} {ρ1 ρ4 : Rho} {m1 m4 : Mem} {c₁ c4 : Nat} {locC : Loc} {K : Mem -> Nat -> Prop}
  (he : SimE C P d fz cl elt) (O : EnvOk cenv) (hA : aN3 d A) (H₁ : Sh C ρ1 m1 c₁ s1.heap) (hx : s1.heap.get? t = some (aW4 vs.toArray n)) (nt : t ∉ ρ1.a) (r : RepPs C s1.heap ρ1 l vs)
  (fL : s1.heap.get? cenv.locals = none) (fI : s1.heap.get? it = none) (n4 : Nx C ρ1 s1 m4 c4 ρ4 s4) (a4 : Afr C cenv ρ4 m4 c4 locC s4) (hi : ρ4.a[i]? = some D) (hit : s4.heap.IsTupleIter it t 0) (nI : it ∉ ρ4.a /\ it ∉ ρ4.f)
  (hb : ∀ m c, K m c -> c <= bigN) (e : aZ9 (bS7 P fz cl x elt cenv.scope) i K l locC m4 c4)
  (k : ∀ ρ' m' c' s' loc', K m' c' -> Nx C ρ1 s1 m' c' ρ' s' -> Afr C cenv ρ' m' c' loc' s' -> ρ'.a[i]? = some D -> R (.ok .next) s') :
  codeAny (model C.prog C.w) A (.compLoop (.ListComp elt [⟨.Name x px, iter, [], 0⟩] scope pos) 0 (.ref it) (.ref D) cenv) R s4 := by
 refine codeAny_compLoop_list (I := fun f s' => ∃ j ρ m, ∃ c loc, f + j = l.length /\ Nx C ρ1 s1 m c ρ s' /\ Afr C cenv ρ m c loc s' /\ s'.heap.IsTupleIter it t j /\ (it ∉ ρ.a /\ it ∉ ρ.f) /\ ρ.a[i]? = some D /\
   aZ9 (bS7 P fz cl x elt cenv.scope) i K (l.drop j) loc m c) ?_ l.length ⟨0, ρ4, m4, c4, locC, rfl, n4, a4, hit, nI, hi, e⟩
 refine fun f s' q => ex3 q fun j ρ m q => ex2 q fun c loc q => ?_
 obtain ⟨hm, n, a, hit, nI, hi, e⟩ := q
 have ht : s'.heap.get? t = some (aW4 vs.toArray _) := n.keep t _ hx nt
 have ne : it ≠ cenv.locals := ex1 hit fun o z => ex1 a.dict fun oL w => aP0 z.1 ⟨_, z.2.2⟩ w.1 w.2
 have pl : ∀ {h' : Heap} {o : Obj} {j : Nat}, h'.get? it = some o -> h'.IsTupleIter it t j -> aD0 o = false := fun e z => ex1 z fun o' z => by
  cases e.symm.trans z.1
  unfold aD0; rw [z.2.2, z.2.1]; rfl
 have turned : ∀ {h' : Heap}, Heap.ExtBut it s'.heap h' -> aF1 ρ s'.heap h' /\ Afr C cenv ρ m c loc { s' with heap := h' } /\ Nx C ρ1 s1 m c ρ { s' with heap := h' } := fun {h'} hs => ex1 hit fun o z => by
  have b := a.but (t := s'.toks) z.1 (pl z.1 ⟨o, z⟩) (H₁.new0 fI) nI ne hs
  exact ⟨b.1, b.2, n.step b.2.sh (fun b o x e1 e2 _ => hs b o (aC7 e1 fI) e2) Grow.refl rfl rfl rfl⟩
 cases hj : l[j]? with
 | none =>
  rw [List.drop_eq_nil_of_le (List.getElem?_eq_none_iff.mp hj)] at e
  refine wpAny_pyNext_tuple_end hA.1 hit (items := vs.toArray) ⟨_, ht, rfl, _, rfl⟩ ?_ fun h' hs => k _ _ _ _ _ e (turned hs).2.2 (turned hs).2.1 hi
  rw [List.getElem?_toArray, List.getElem?_eq_none_iff, r.length]
  exact List.getElem?_eq_none_iff.mp hj
 | some v =>
  obtain ⟨hlt, hv⟩ := zzA.mp hj
  refine ex1 (r.get hj) fun v' rv => ?_
  rw [List.drop_eq_getElem_cons hlt, hv] at e
  refine wpAny_pyNext_tuple_item hit (items := vs.toArray) ⟨_, ht, rfl, _, rfl⟩ (x := v') (by rw [List.getElem?_toArray]; exact rv.1) fun h' hit' hs => ?_
  have T := turned hs.extBut
  have rv1 : Rep C h' ρ (.p v) v' := RepP.mono T.1 Less.refl _ _ (RepP.mono n.keep.d n.grow.toLess _ _ rv.2)
  refine PyProof.Rows.assign_Name (aJ3 (s := { s' with heap := h' }) O T.2.1 rv1 (cK0 e) fun loc₃ s5 e3 n5 => ?_)
  have N5 := T.2.2.step n5.at_.sh (fun b o x e1 e2 e3 => n5.keep b o e2 e3 (aC7 e1 fL)) n5.grow n5.gens n5.drawn n5.os
  refine he.sim ⟨O, n5.at_, hA⟩ (fun _ _ _ e => aA5 e fun _ _ e => aC9 e fun _ _ e => le1 (aU4 he hb e)) e3 fun z z' ρ6 m6 c6 s6 e n6 r6 => aA5 e fun z hz e => aC9 e fun l' hm' e9 => ?_
  subst hz
  have hi6 := n6.grow.at_ hi
  refine ex2 (n6.sh.cell i D _ hi6 hm') fun us n0 q => append_at q.1 (fun h9 hs9 hd9 => ?_) (by rw [zzV]; exact nT (q.2.1.length ▸ q.2.2) (nT (le1 (aU4 he hb e9)) (by decide)))
  have nu := Nx.upd (o' := .pl (l' ++ [z])) n6.sh s6.toks (Nat.le_succ c6) hi6 hs9 ⟨us ++ [z'], n0 + 1, hd9.trans (congrArg (fun a => some (listOf a _)) (List.push_toArray us z')), RepPs.mono (SameBut.keep hi6 hs9).d Less.refl _ _ (RepPs.append (r := [z]) (us := [z']) ⟨z', [], rfl, r6, rfl⟩ q.2.1), by rw [zzB]; exact zzd q.2.2⟩
  refine ex1 hit' fun o1 w1 => ?_
  have i5 : s5.heap.get? it = some o1 := n5.keep it o1 w1.1 nI.1 ne
  have nI6 : it ∉ ρ6.a /\ it ∉ ρ6.f := ⟨n6.grow.out _ _ i5 nI.1, fun z => (n6.grow.frn _ z).elim nI.2 fun z => nomatch z.symm.trans i5⟩
  cases f with
  | zero => exact absurd ((Nat.zero_add j).symm.trans hm) (Nat.ne_of_lt hlt)
  | succ f => exact ⟨f, zzb f, j + 1, ρ6, _, _, loc₃, (Nat.succ_add_eq_add_succ f j).symm.trans hm, (N5.trans n6).trans nu, (n5.at_.next n6).next nu, ⟨o1, nu.keep it o1 (n6.keep it o1 i5 nI.1) nI6.1, w1.2⟩, nI6, hi6, e9⟩
end
section
variable {C : Cx} {P : PI} {h' : Heap} {ρ ρ' : Rho} {m m' : Mem} {c c' n d : Nat} {s s' : Shared} {A : Around} {E : Value -> Shared -> Prop} {K : Kt MV} {Q : Value -> Shared -> Prop} {cl : Orc} {fz : Str -> Bool} {env : Env} {loc loc' : Loc}
theorem cK8 {gens : List Comprehension} {sc : Scope} {K : Kt (List PV)} {g : Prop} (e : evG P fz cl gens sc loc K m c)
  (f : ∀ x px iter, gens = [⟨.Name x px, iter, [], 0⟩] -> evE P fz cl iter sc loc (fun it m c => onP it fun it => onT it fun l => K l m c) m c -> g) : g := by
 cases gens with
 | nil => exact nO e
 | cons x r => cases r with
  | cons => exact nO e
  | nil =>
   obtain ⟨t, iter, ifs, a⟩ := x
   cases t with
   | Name y p => cases ifs with
    | nil => cases a with
     | ofNat a => cases a with
      | zero => exact f _ _ _ rfl e
      | succ => exact nO e
     | negSucc => exact nO e
    | cons => exact nO e
   | _ => exact nO e
theorem bd_G {gens : List Comprehension} {sc : Scope} {K : Kt (List PV)} (hg : ∀ g ∈ gens, SimE C P d fz cl g.iter) (hK : Bd K) (e : evG P fz cl gens sc loc K m c) : c <= bigN :=
 cK8 e fun x px iter q e => by subst q; exact (hg _ (.head _)).bd (fun _ _ _ e => aA5 e fun _ _ e => aG3 e fun _ _ e => hK _ _ _ e) e
theorem aX3 {elt : Expr} {gens : List Comprehension} {scope : Scope} {pos : Pos} (he : SimE C P d fz cl elt) (hg : ∀ g ∈ gens, SimE C P d fz cl g.iter) : SimE C P d fz cl (.ListComp elt gens scope pos) where
 bd hK e := aA0 e fun _ e => bd_G hg (fun _ _ _ e => aU4 he (fun _ _ e => hK _ _ _ e) e) e
 sim {env A ρ m c loc s K E Q} g hK e k := aA0 e fun hok e => cK8 e fun x px iter q e => by
  subst q
  have hiter := hg _ (.head _)
  unfold cL1 at hok
  simp only [Bool.and_eq_true, beq_iff_eq, List.all_eq_true] at hok
  obtain ⟨⟨hkind, hxl⟩, hall⟩ := hok
  have hfree : ∀ n, (n, NameKind.free) ∈ scope.names -> ∃ u, loc.lookup n = some u /\ (env.kindOf n = some .cell ∨ env.kindOf n = some .free) /\ scope.names.lookup n = some .free := fun n hn => by
   have := hall _ hn
   simp only [Bool.and_eq_true, Bool.or_eq_true, beq_iff_eq] at this
   obtain ⟨u, hu⟩ := Option.isSome_iff_exists.mp this.1.1
   exact ⟨u, hu, this.1.2, this.2⟩
  have hcells : ∀ n, (n, NameKind.free) ∈ scope.names -> ∃ c, env.cells.lookup n = some c := fun n hn => ex1 (hfree n hn) fun u q => ex2 (g.a.ce n u q.1 q.2.1) fun c _ z => ⟨c, z.1⟩
  have hnames : ∀ y ∈ scope.names, y.2 = .local -> scope.names.lookup y.1 = some .local := fun y hy hyl => by
   obtain ⟨n, k⟩ := y
   have := hall _ hy
   subst hyl
   exact beq_iff_eq.mp this
  have hcell : ∀ y ∈ scope.names, y.2 ≠ .cell := fun y hy hyc => by
   obtain ⟨n, k⟩ := y
   subst hyc
   exact nomatch hall _ hy
  rw [eval_ListComp]
  refine wpAny_comprehension_free (use := none) rfl (fun _ => aL7 e _) (aR0 hcells) hkind hnames (hiter.sim g (fun _ _ _ e => aA5 e fun _ _ e => aG3 e fun _ _ e => aU4 he (fun _ _ e => hK _ _ _ e) e) e fun w w' ρ1 m1 c₁ s1 e n1 r1 => aA5 e fun w hw e => aG3 e fun l hl e9 => ?_)
  subst hw hl
  refine ex3 r1 fun t vs n r1 => ?_
  obtain ⟨rfl, hx, nt, _, r⟩ := r1
  refine wpAny_pyIter_tuple (items := vs.toArray) ⟨_, hx, rfl, n, rfl⟩ ?_
  refine wpAny_newObj_type (wpAny_newFunctionEnv hcell (fun y hy => nomatch hy) (fun h1 hns1 hsb1 => ?_) hkind)
  dsimp only at hns1 hsb1 ⊢
  generalize hH1 : s1.heap.push { cls := .type "tuple_iterator", data := .fields #[.ref t, .int 0 0] } = H1 at hns1 hsb1 ⊢
  generalize hH2 : H1.push { cls := .type "list", dict := none, data := .seq ([] : List Value).toArray } = H2 at hns1 hsb1 ⊢
  have z1 : H1.objs.size = s1.heap.objs.size + 1 := hH1 ▸ Heap.size_push ..
  have z2 : H2.objs.size = H1.objs.size + 1 := hH2 ▸ Heap.size_push ..
  have p2 : ∀ b o, H1.get? b = some o -> H2.get? b = some o := fun b o e => hH2 ▸ Heap.get?_push_of_some _ e
  have p3 : ∀ b o, H2.get? b = some o -> h1.get? b = some o := fun b o e => hsb1.extBut b o (Nat.ne_of_lt (Heap.lt_size e)) (Heap.get?_push_of_some _ e)
  have old : ∀ b o, s1.heap.get? b = some o -> h1.get? b = some o := fun b o e => p3 b o (p2 b o (hH1 ▸ Heap.get?_push_of_some _ e))
  have gI := p3 _ _ (p2 _ _ (show H1.get? s1.heap.objs.size = some { cls := .type "tuple_iterator", data := .fields #[.ref t, .int 0 0] } from hH1 ▸ Heap.get?_push_size _ rfl))
  have gD := p3 _ _ (show H2.get? H1.objs.size = some (W.listOf ([] : List Value).toArray 0) from hH2 ▸ Heap.get?_push_size _ rfl)
  have fr : ∀ {m : Nat}, s1.heap.objs.size <= m -> s1.heap.get? m = none := fun {m} hm => by
   cases e : s1.heap.get? m with
   | none => rfl
   | some o' => exact absurd (Heap.lt_size e) (Nat.not_lt.mpr hm)
  have fI := fr (nR _)
  have fD : s1.heap.get? H1.objs.size = none := fr (z1 ▸ Nat.le_succ _)
  have fL : s1.heap.get? H2.objs.size = none := fr (z2 ▸ z1 ▸ nA _ 2)
  have n4 := Nx.new (o := .pl []) n1.sh s1.toks (nR c₁) fD old ⟨[], 0, gD, rfl, zzN _⟩
  have out : ∀ {b : Addr}, s1.heap.get? b = none -> b ≠ H1.objs.size -> b ∉ (ρ1.new H1.objs.size).a /\ b ∉ (ρ1.new H1.objs.size).f := fun hb hn => ⟨fun q => (zzP.mp q).elim (fun q => ex1 (n1.sh.there q) fun o e => nomatch e.symm.trans hb) fun q => hn (zzJ.mp q), fun q => ex1 (n1.sh.froz _ q).2.2 fun o e => nomatch e.symm.trans hb⟩
  have ac : Afr C (compEnvC scope (clos env scope.names []) H2.objs.size env) (ρ1.new H1.objs.size) (m1 ++ [.pl []]) c₁ (loc.filter fun p => scope.names.lookup p.1 == some .free) { s1 with heap := h1, toks := s1.toks } := by
   refine ⟨n4.sh, ⟨_, hns1, fun y u e k => ?_⟩, fun y u e _ => ?_, out fL (z2 ▸ Nat.succ_ne_self _), n1.sh.new0 fL⟩
   ·have hf := (aO0 (f := fun n => scope.names.lookup n == some .free) e).1
    have k' : (scope.names.map fun p => if (p.2 == NameKind.free && env.scope.kind == .function && env.kindOf p.1 == some .cell) then (p.1, NameKind.cell) else (p.1, p.2)).lookup y = some .local := k
    rw [bJ5 (f := fun n k => (k == NameKind.free && env.scope.kind == .function && env.kindOf n == some .cell)), beq_iff_eq.mp hf, Option.map_some] at k'
    split at k' <;> cases k'
   ·have hf := aO0 (f := fun n => scope.names.lookup n == some .free) e
    have mem := bC6 (beq_iff_eq.mp hf.1)
    refine ex1 (hfree y mem) fun u' q => ex2 ((g.a.next n1).ce y u hf.2 q.2.1) fun b v' q => ex1 q.2.1 fun o z => ⟨b, v', (bO7 (cs := []) hcells (fun n c e => nomatch e) y (.inl mem)).trans q.1, ⟨o, old _ _ z.1, z.2⟩, fun w => (zzP.mp w).elim q.2.2.1 fun w => aC7 z.1 fD (zzJ.mp w), Rep.mono n4.keep.d n4.grow _ _ q.2.2.2⟩
  have loop : codeAny (model C.prog C.w) A (.compLoop (.ListComp elt [⟨.Name x px, iter, [], 0⟩] scope pos) 0 (.ref s1.heap.objs.size) (.ref H1.objs.size) (compEnvC scope (clos env scope.names []) H2.objs.size env))
    (compPost (model C.prog C.w) A E none Q (.ref H1.objs.size) H2.objs.size) { s1 with heap := h1, toks := s1.toks } := by
   refine bU9 he ⟨hkind, g.O.glob, g.O.blt⟩ g.r n1.sh hx nt r fL fI n4 ac (aF6 n1.sh.len) ⟨_, gI, rfl, rfl⟩ (out fI (z1 ▸ Nat.ne_of_lt (zzb _))) (fun _ _ e => hK _ _ _ e) e9 fun ρ' m' c' s' loc' e n a' hi => ?_
   refine ex1 a'.lo fun f lo => ex1 a'.there fun oL eL => ⟨f, lo.1, fun h' hs => ?_⟩
   exact k _ _ _ _ _ _ e (n1.trans (n.step (a'.sh.but eL.1 eL.2 a'.n0 a'.nl.1 a'.nl.2 fun b o nb e => (hs.2 b nb).trans e).2 (fun b o x e1 e2 _ => (hs.2 b (aC7 e1 fL)).trans e2) Grow.refl rfl rfl rfl)) ⟨_, hi, rfl⟩
  exact codeAny_compStart_list loop (wpAny_pyIter_tupleiter (t := t) (i := 0) ⟨_, gI, rfl, rfl⟩ loop)
end
noncomputable def RepF (C : Cx) (h : Heap) (ρ : Rho) : Flw -> Flow -> Prop
 | .next, f => f = .next
 | .brk, f => f = .brk
 | .cont, f => f = .cont
 | .ret v, f => ∃ v', f = .ret v' /\ Rep C h ρ v v'
noncomputable abbrev OutS (C : Cx) (env : Env) (ρ : Rho) (s : Shared) (K : Kt (Flw × Loc)) (Q : Flow -> Shared -> Prop) : Prop :=
 ∀ x f ρ' m' c' s', K x m' c' -> Nz C env ρ s m' c' x.2 ρ' s' -> RepF C s'.heap ρ' x.1 f -> Q f s'
noncomputable abbrev OutZ (C : Cx) (env : Env) (ρ : Rho) (s : Shared) (K : Kt Loc) (Q : Unit -> Shared -> Prop) : Prop := ∀ loc' ρ' m' c' s', K loc' m' c' -> Nz C env ρ s m' c' loc' ρ' s' -> Q () s'
structure SimZ (C : Cx) (d : Nat) (ev : Scope -> Loc -> PT (Flw × Loc)) (tree : Env -> Sem Flow) : Prop where
 bd : ∀ {sc : Scope} {loc : Loc} {K : Kt (Flw × Loc)} {m : Mem} {c : Nat}, Bd K -> ev sc loc K m c -> c <= bigN
 sim : ∀ {env : Env} {A : Around} {ρ : Rho} {m : Mem} {c : Nat} {loc : Loc} {s : Shared} {K : Kt (Flw × Loc)} {E : Value -> Shared -> Prop} {Q : Flow -> Shared -> Prop},
  Cfg C d env A ρ m c loc s -> Bd K -> ev env.scope loc K m c -> OutS C env ρ s K Q -> wpAny (model C.prog C.w) A (tree env) Q E s
section
variable (C : Cx) (P : PI) (d : Nat) (fz : Str -> Bool) (cl : Orc)
noncomputable abbrev SimS (st : Stmt) : Prop := SimZ C d (evS P fz cl st) (PySem.exec st)
noncomputable abbrev aL5 (l : List Stmt) : Prop := SimZ C d (evSs P fz cl l) (PySem.execs l)
end
structure TurnOk (C : Cx) (d : Nat) (env : Env) (f : MV -> Loc -> PT (Flw × Loc)) (target : Expr) (body : List Stmt) : Prop where
 bd : ∀ {v : MV} {loc : Loc} {K : Kt (Flw × Loc)} {m : Mem} {c : Nat}, Bd K -> f v loc K m c -> c <= bigN
 sim : ∀ {A : Around} {ρ : Rho} {m : Mem} {c : Nat} {loc : Loc} {s : Shared} {v : MV} {v' : Value} {K : Kt (Flw × Loc)} {E : Value -> Shared -> Prop} {Q : Flow -> Shared -> Prop},
  Cfg C d env A ρ m c loc s -> Bd K -> f v loc K m c -> Rep C s.heap ρ v v' -> OutS C env ρ s K Q -> wpAny (model C.prog C.w) A (assign target env v') (fun _ s2 => wpAny (model C.prog C.w) A (execs body env) Q E s2) E s
structure Src (C : Cx) (env : Env) (ρ : Rho) (s : Shared) (it : Addr) (cur : Nat -> Mem -> Option (Option MV)) (ItAt : Nat -> Heap -> Prop) : Prop where
 obj : ∀ {k h}, ItAt k h -> ∃ o n, h.get? it = some o /\ (∃ vs, o.data = .fields vs) /\ aD0 o = false /\ o.cls = .type n /\ (["enumerate", "zip", "dict_itemiterator", "dict_reverseitemiterator", "odict_iterator", "itertools.zip_longest", "itertools.pairwise"].contains n) = false
 mono : ∀ {k h h'}, ItAt k h -> (∀ o, h.get? it = some o -> h'.get? it = some o) -> ItAt k h'
 step : ∀ {k m' c' loc' ρ' s' v} {E : Value -> Shared -> Prop} {Q : Option Value -> Shared -> Prop} {A : Around}, A.handled = none -> Nz C env ρ s m' c' loc' ρ' s' -> ItAt k s'.heap -> cur k m' = some (some v) ->
  (∀ h' v' t, ItAt (k + 1) h' -> Heap.ExtBut it s'.heap h' -> Rep C s'.heap ρ' v v' -> Q (some v') { s' with heap := h', toks := t }) -> wpAny (model C.prog C.w) A (pyNext (.ref it)) Q E s'
 stop : ∀ {k m' c' loc' ρ' s'} {E : Value -> Shared -> Prop} {Q : Option Value -> Shared -> Prop} {A : Around}, A.handled = none -> Nz C env ρ s m' c' loc' ρ' s' -> ItAt k s'.heap -> cur k m' = some none ->
  (∀ h' t, Heap.ExtBut it s'.heap h' -> Q none { s' with heap := h', toks := t }) -> wpAny (model C.prog C.w) A (pyNext (.ref it)) Q E s'
noncomputable def curL (l : List MV) (k : Nat) (_ : Mem) : Option (Option MV) := some l[k]?
noncomputable def curO (i : Nat) (k : Nat) (m : Mem) : Option (Option MV) := match m[i]? with
 | some (.pl l) => some (l[k]?.map .p)
 | _ => none
section
variable {C : Cx} {P : PI} {h' : Heap} {ρ ρ' : Rho} {m m' : Mem} {c c' n d : Nat} {s s' : Shared} {A : Around} {E : Value -> Shared -> Prop} {K : Kt (Flw × Loc)} {Q : Flow -> Shared -> Prop} {cl : Orc} {fz : Str -> Bool} {env : Env} {loc loc' : Loc}
theorem OutS.on (n : Nz C env ρ s m' c' loc' ρ' s') (k : OutS C env ρ s K Q) : OutS C env ρ' s' K Q := fun x f ρ' m' c' s' e n' r => k x f ρ' m' c' s' e (n.trans n') r
theorem dU5 {go : Loc -> Mem -> Nat -> Prop} {x : Flw × Loc} {m : Mem} {c : Nat} {g : Prop} (e : turn K go x m c) (f1 : x.1 = .next -> go x.2 m c -> g) (f2 : x.1 = .cont -> go x.2 m c -> g) (f3 : x.1 = .brk -> K (.next, x.2) m c -> g) (f4 : ∀ u, x.1 = .ret u -> K (.ret u, x.2) m c -> g) : g := by
 obtain ⟨f, l⟩ := x
 cases f with
 | next => exact f1 rfl e
 | brk => exact f3 rfl e
 | cont => exact f2 rfl e
 | ret u => exact f4 u rfl e
theorem aK6 {go : Loc -> Mem -> Nat -> Prop} (hK : Bd K) (hg : ∀ {l m c}, go l m c -> c <= bigN) : Bd (turn K go) := fun x m c e => dU5 e (fun _ e => hg e) (fun _ e => hg e) (fun _ e => hK _ _ _ e) fun _ _ e => hK _ _ _ e
theorem dG0 {target : Expr} {it : Addr} {o : Obj} {v : Value} {n : String} {Q : Unit -> Shared -> Prop} (ho : s.heap.get? it = some o) (hc : o.cls = .type n)
  (hn : (["enumerate", "zip", "dict_itemiterator", "dict_reverseitemiterator", "odict_iterator", "itertools.zip_longest", "itertools.pairwise"].contains n) = false) (q : Q () s) :
  wpAny (model C.prog C.w) A (letOwnedTupleGo target (.ref it) v) Q E s := by
 have go : wpAny (model C.prog C.w) A (letOwnedTupleGo (.List [] default) (.ref it) v) Q E s := by
  cases v with
  | ref a =>
   refine wpAny_bind (wpAny_load ho ?_)
   rw [hc]
   cases o.data with
   | fields vs =>
    show wpAny _ A (if (_ && _) = true then _ else _) Q E s
    rw [hn, Bool.false_and, if_neg Bool.false_ne_true]
    exact wpAny_pure q
   | _ => exact wpAny_pure q
  | _ => exact wpAny_pure q
 cases target with
 | Tuple => exact go
 | List => exact go
 | _ => exact wpAny_pure q
theorem bD4 {it : Addr} {cur : Nat -> Mem -> Option (Option MV)} {f : MV -> Loc -> PT (Flw × Loc)} {target : Expr} {body : List Stmt} {n : Nat} {s1 : Shared} {ρ1 : Rho} {W : Nat -> Nat -> Loc -> Mem -> Nat -> Prop} {J : Nat -> Nat -> Prop} {G : Value -> Shared -> Prop}
  (O : EnvOk env) (hA : aN3 d A) (T : TurnOk C d env f target body) {I : Nat -> Heap -> Prop} (src : Src C env ρ s it cur I) (fr : s.heap.get? it = none) (n0 : C.h₀.get? it = none) (n1 : Nz C env ρ s m c loc ρ1 s1) (nI : it ∉ ρ1.a /\ it ∉ ρ1.f) (i0 : I 0 s1.heap) (hK : Bd K)
  (hW : ∀ {n k loc m c} {g : Prop}, J n k -> W n k loc m c -> (cur k m = some none -> K (.next, loc) m c -> g) -> (∀ n' v, n = n' + 1 -> J n' (k + 1) -> cur k m = some (some v) -> f v loc (turn K (W n' (k + 1))) m c -> g) -> g)
  (hWb : ∀ {n k loc m c}, W n k loc m c -> c <= bigN) (j0 : J n 0) (e : W n 0 loc m c) (k : OutS C env ρ s K Q) :
  codeAny (model C.prog C.w) A (.forLoop target (.ref it) body [] env) (fun r s' => match r with | .ok f => Q f s' | .error e => G e s') s1 := by
 refine codeAny_forLoop_any (I := fun n s' => ∃ k ρ' m, ∃ c loc, Nz C env ρ s m c loc ρ' s' /\ (it ∉ ρ'.a /\ it ∉ ρ'.f) /\ I k s'.heap /\ J n k /\ W n k loc m c) ?_ n ⟨0, ρ1, m, c, loc, n1, nI, i0, j0, e⟩
 refine fun n s' q => ex3 q fun i ρ1 m q => ex2 q fun c loc q => ?_
 obtain ⟨nz, nI, hit, j, e⟩ := q
 have turned : ∀ {h' : Heap} {t : Nat}, Heap.ExtBut it s'.heap h' -> aF1 ρ1 s'.heap h' /\ Nz C env ρ s m c loc ρ1 { s' with heap := h', toks := t } := fun {h' t} hs => ex2 (src.obj hit) fun o nm q => by
  have ne : it ≠ env.locals := ex1 nz.at_.dict fun oL w => aP0 q.1 q.2.1 w.1 w.2
  have b := nz.at_.but (t := t) q.1 q.2.2.1 n0 nI ne hs
  exact ⟨b.1, b.2, fun b o e nm nl => hs b o (aC7 e fr) (nz.keep b o e nm nl), nz.grow, nz.gens, nz.drawn, nz.os⟩
 refine hW j e (fun hc e => src.stop hA.1 nz hit hc fun h' t hs => wpAny_execs_nil (k _ _ _ _ _ _ e (turned hs).2 rfl)) fun n' v hn j9 hc e9 => src.step hA.1 nz hit hc fun h' v' t hit' hs rv => ?_
 subst hn
 have T2 := turned (t := t) hs
 refine ex2 (src.obj hit') fun o nm q => dG0 (s := { s' with heap := h', toks := t }) q.1 q.2.2.2.1 q.2.2.2.2 ?_
 have ne : it ≠ env.locals := ex1 T2.2.at_.dict fun oL w => aP0 q.1 q.2.1 w.1 w.2
 refine T.sim ⟨O, T2.2.at_, hA⟩ (aK6 hK hWb) e9 (Rep.mono T2.1 Grow.refl _ _ rv) fun x fl ρ2 m2 c2 s2 e n2 rf => ?_
 have n3 := T2.2.trans n2
 have hk : ∀ o, h'.get? it = some o -> s2.heap.get? it = some o := fun o e => n2.keep it o e nI.1 ne
 have nI2 : it ∉ ρ2.a /\ it ∉ ρ2.f := ⟨n2.grow.out _ _ q.1 nI.1, fun z => (n2.grow.frn _ z).elim nI.2 fun z => nomatch z.symm.trans q.1⟩
 have go : W n' (i + 1) x.2 m2 c2 -> ∃ k, k < n' + 1 /\ ∃ k₁ ρ' m, ∃ c loc, Nz C env ρ s m c loc ρ' s2 /\ (it ∉ ρ'.a /\ it ∉ ρ'.f) /\ I k₁ s2.heap /\ J k k₁ /\ W k k₁ loc m c := fun e => ⟨n', zzb _, i + 1, ρ2, m2, c2, x.2, n3, nI2, src.mono hit' hk, j9, e⟩
 obtain ⟨fl', loc'⟩ := x
 cases fl' with
 | next => cases (show fl = .next from rf); exact go e
 | cont => cases (show fl = .cont from rf); exact go e
 | brk => cases (show fl = .brk from rf); exact k _ _ _ _ _ _ e n3 rfl
 | ret u => exact ex1 rf fun u' rf => by obtain ⟨rfl, ru⟩ := rf; exact k _ _ _ _ _ _ e n3 ⟨u', rfl, ru⟩
theorem aT6 {test : Expr} {body : List Stmt} {sc : Scope} (ht : SimT C P d fz cl test) (hb : aL5 C P d fz cl body) (hK : Bd K) {n : Nat} : ∀ {loc : Loc} {m : Mem} {c : Nat}, aL9 (fun loc => evT P fz cl test sc loc (evE P fz cl test sc loc)) (evSs P fz cl body sc) K n loc m c -> c <= bigN := by
 induction n with
 | zero => exact fun e => e.elim
 | succ n ih => exact fun e => ht.bd (fun b _ _ e => by
   cases b with
   | true => exact hb.bd (aK6 hK ih) e
   | false => exact hK _ _ _ e) e
theorem bL5 {test : Expr} {body : List Stmt} {n : Nat} {G : Value -> Shared -> Prop} (O : EnvOk env) (a : Afr C env ρ m c loc s) (hA : aN3 d A) (ht : SimT C P d fz cl test) (hb : aL5 C P d fz cl body) (hK : Bd K)
  (e : aL9 (fun loc => evT P fz cl test env.scope loc (evE P fz cl test env.scope loc)) (evSs P fz cl body env.scope) K n loc m c) (k : OutS C env ρ s K Q) :
  codeAny (model C.prog C.w) A (.whileLoop test body [] env) (fun r s' => match r with | .ok f => Q f s' | .error e => G e s') s := by
 refine codeAny_whileLoop (I := fun n s' => ∃ ρ' m c, ∃ loc, Nz C env ρ s m c loc ρ' s' /\ aL9 (fun loc => evT P fz cl test env.scope loc (evE P fz cl test env.scope loc)) (evSs P fz cl body env.scope) K n loc m c) ?_ n ⟨ρ, m, c, loc, Nz.refl a, e⟩
 refine fun n s' q => ex3 q fun ρ1 m c q => ex1 q fun loc q => ?_
 cases n with
 | zero => exact q.2.elim
 | succ n =>
  refine ht.sim ⟨O, q.1.at_, hA⟩ (fun b _ _ e => by
   cases b with
   | true => exact hb.bd (aK6 hK (aT6 ht hb hK)) e
   | false => exact hK _ _ _ e) q.2 fun b b' ρ2 m2 c2 s2 e n2 rb => ?_
  subst rb
  have nz2 := q.1.trans (Nz.of q.1.at_ n2)
  cases b with
  | false => exact wpAny_execs_nil (k _ _ _ _ _ _ e nz2 rfl)
  | true =>
   refine hb.sim ⟨O, nz2.at_, hA⟩ (aK6 hK (aT6 ht hb hK)) e fun x fl ρ3 m3 c3 s3 e n3 rf => ?_
   have nz3 := nz2.trans n3
   obtain ⟨fl', loc'⟩ := x
   cases fl' with
   | next => cases (show fl = .next from rf); exact ⟨n, zzb _, ρ3, m3, c3, loc', nz3, e⟩
   | cont => cases (show fl = .cont from rf); exact ⟨n, zzb _, ρ3, m3, c3, loc', nz3, e⟩
   | brk => cases (show fl = .brk from rf); exact k _ _ _ _ _ _ e nz3 rfl
   | ret u => exact ex1 rf fun u' rf => by obtain ⟨rfl, ru⟩ := rf; exact k _ _ _ _ _ _ e nz3 ⟨u', rfl, ru⟩
end
section
variable {C : Cx} {h h' : Heap} {ρ ρ' : Rho} {m m' : Mem} {c c' n d : Nat} {s s' : Shared} {A : Around} {E : Value -> Shared -> Prop} {K : Kt (Flw × Loc)} {Q : Flow -> Shared -> Prop} {env : Env} {loc loc' : Loc}
theorem dA0 (a : Afr C env ρ m c loc s) {it t : Addr} {l : List PV} {vs : List Value} {n : Nat} (hx : s.heap.get? t = some (aW4 vs.toArray n)) (nt : t ∉ ρ.a) (r : RepPs C s.heap ρ l vs) : Src C env ρ s it (curL (l.map .p)) fun k h => h.IsTupleIter it t k where
 obj := fun q => ex1 q fun o q => ⟨o, "tuple_iterator", q.1, ⟨_, q.2.2⟩, by unfold aD0; rw [q.2.2, q.2.1]; rfl, q.2.1, by decide⟩
 mono := fun q k => ex1 q fun o q => ⟨o, k o q.1, q.2⟩
 step hh nz hit hc q := by
  have hc := (zza (f := MV.p) (l := l) ▸ zzC hc)
  refine ex1 (Option.map_eq_some_iff.mp hc) fun x hx' => ex1 (r.get hx'.1) fun v' rv => ?_
  exact wpAny_pyNext_tuple_item hit (items := vs.toArray) ⟨_, nz.keepD a t _ hx nt (.inr rfl), rfl, n, rfl⟩ ((List.getElem?_toArray ..).trans rv.1) fun h' hi' hs => q h' v' _ hi' hs.extBut (hx'.2 ▸ RepP.mono (nz.keepD a) nz.grow.toLess _ _ rv.2)
 stop hh nz hit hc q := by
  have hc := (zza (f := MV.p) (l := l) ▸ zzC hc)
  refine wpAny_pyNext_tuple_end hh hit (items := vs.toArray) ⟨_, nz.keepD a t _ hx nt (.inr rfl), rfl, n, rfl⟩ ?_ fun h' hs => q h' _ hs
  rw [List.getElem?_toArray, List.getElem?_eq_none_iff, r.length]
  exact List.getElem?_eq_none_iff.mp (Option.map_eq_none_iff.mp hc)
theorem bQ9 {i k : Nat} {o : Option MV} {g : Prop} (e : curO i k m = some o) (f : ∀ l, m[i]? = some (.pl l) -> l[k]?.map .p = o -> g) : g := by
 revert e
 show (match m[i]? with | some (.pl l) => some (l[k]?.map MV.p) | _ => none) = some o -> g
 cases q : m[i]? with
 | none => exact fun e => nomatch e
 | some x => cases x with
  | pl l => exact fun e => f l q (zzC e)
  | _ => exact fun e => nomatch e
theorem cX9 {it t : Addr} {i : Nat} (ei : ρ.a[i]? = some t) : Src C env ρ s it (curO i) fun k h => h.IsListIter it t k where
 obj := fun q => ex1 q fun o q => ⟨o, "list_iterator", q.1, ⟨_, q.2.2⟩, by unfold aD0; rw [q.2.2, q.2.1]; rfl, q.2.1, by decide⟩
 mono := fun q k => ex1 q fun o q => ⟨o, k o q.1, q.2⟩
 step hh nz hit hc q := bQ9 hc fun l hl e => ex2 (nz.at_.sh.cell i t _ (nz.grow.at_ ei) hl) fun vs n z => ex1 (Option.map_eq_some_iff.mp e) fun x hx => ex1 (z.2.1.get hx.1) fun v' rv =>
  wpAny_pyNext_list_item hit (aB6 z.1) ((List.getElem?_toArray ..).trans rv.1) fun h' hi' hs => q h' v' _ hi' hs.extBut (hx.2 ▸ rv.2)
 stop hh nz hit hc q := bQ9 hc fun l hl e => ex2 (nz.at_.sh.cell i t _ (nz.grow.at_ ei) hl) fun vs n z => by
  refine wpAny_pyNext_list_end hh hit (aB6 z.1) ?_ fun h' hs => q h' _ hs
  rw [List.getElem?_toArray, List.getElem?_eq_none_iff, z.2.1.length]
  exact List.getElem?_eq_none_iff.mp (Option.map_eq_none_iff.mp e)
theorem cV4 {it : Addr} {n : Nat} : Src C env ρ s it (curL ((List.range n).map fun (i : Nat) => i_ i)) fun k h => IsRangeIter h it k (n - k) 1 where
 obj := fun e => ⟨_, "range_iterator", e, ⟨_, rfl⟩, rfl, rfl, by decide⟩
 mono := fun e k => k _ e
 step {k m' c' loc' ρ' s' v E Q A} hh nz hit hc q := by
  have hc := (zza (f := fun (i : Nat) => i_ i) (l := List.range n) ▸ zzC hc)
  refine ex1 (Option.map_eq_some_iff.mp hc) fun j hj => ?_
  obtain ⟨hj1, hj2⟩ := zzA.mp hj.1
  rw [List.length_range] at hj1
  rw [List.getElem_range] at hj2
  subst hj2
  refine wpAny_pyNext_range_item hit (Int.sub_pos_of_lt (Int.ofNat_lt.mpr hj1)) fun h' hi' hs => q h' _ _ ?_ hs.extBut (hj.2 ▸ ⟨_, rfl⟩)
  show IsRangeIter h' it ((k : Int) + 1) (n - ((k : Int) + 1)) 1
  rw [Int.sub_sub] at hi'
  exact hi'
 stop {k m' c' loc' ρ' s' E Q A} hh nz hit hc q := by
  have hc := (zza (f := fun (i : Nat) => i_ i) (l := List.range n) ▸ zzC hc)
  have := List.getElem?_eq_none_iff.mp (Option.map_eq_none_iff.mp hc)
  rw [List.length_range] at this
  exact wpAny_pyNext_range_end hh hit (Int.sub_nonpos_of_le (Int.ofNat_le.mpr this)) fun h' hs => q h' _ hs
theorem bA1 {f : MV -> Loc -> PT (Flw × Loc)} (hf : ∀ {v loc K m c}, Bd K -> f v loc K m c -> c <= bigN) (hK : Bd K) {l : List MV} : ∀ {loc : Loc} {m : Mem} {c : Nat}, forL f K l loc m c -> c <= bigN := by
 induction l with
 | nil => exact fun e => hK _ _ _ e
 | cons v l ih => exact fun e => hf (aK6 hK ih) e
theorem bW5 {f : MV -> Loc -> PT (Flw × Loc)} {i n k : Nat} {g : Prop} (e : forO f i K n k loc m c) (f1 : curO i k m = some none -> K (.next, loc) m c -> g) (f2 : ∀ n' v, n = n' + 1 -> curO i k m = some (some v) -> f v loc (turn K (forO f i K n' (k + 1))) m c -> g) : g := by
 cases n with
 | zero => exact e.elim
 | succ n =>
  refine aC9 (show atP m[i]? fun l => match l[k]? with | none => K (.next, loc) m c | some v => f (.p v) loc (turn K (forO f i K n (k + 1))) m c from e) fun l hl e => ?_
  have hc : curO i k m = some (l[k]?.map .p) := by unfold curO; rw [hl]
  revert e
  cases hk : l[k]? with
  | none => exact fun e => f1 (hc.trans (by rw [hk]; rfl)) e
  | some v => exact fun e => f2 n (.p v) rfl (hc.trans (by rw [hk]; rfl)) e
theorem bM3 {f : MV -> Loc -> PT (Flw × Loc)} (hf : ∀ {v loc K m c}, Bd K -> f v loc K m c -> c <= bigN) (hK : Bd K) {i n : Nat} : ∀ {k : Nat} {loc : Loc} {m : Mem} {c : Nat}, forO f i K n k loc m c -> c <= bigN := by
 induction n with
 | zero => exact fun e => e.elim
 | succ n ih => exact fun e => bW5 e (fun _ e => hK _ _ _ e) fun n' v q _ e => hf (aK6 hK (by cases q; exact ih)) e
theorem cY7 {f : MV -> Loc -> PT (Flw × Loc)} {v : MV} (hf : ∀ {v loc K m c}, Bd K -> f v loc K m c -> c <= bigN) (hK : Bd K) (e : forV f v loc K m c) : c <= bigN := by
 cases v with
 | p t => exact aG3 e fun l _ e => bA1 hf hK e
 | rng n => exact bA1 hf hK e
 | obj i => exact ex1 e fun n e => bM3 hf hK e
 | _ => exact e.elim
theorem dE1 {f : MV -> Loc -> PT (Flw × Loc)} {l : List MV} {n k : Nat} {g : Prop} (j : n + k = l.length) (e : forL f K (l.drop k) loc m c) (f1 : curL l k m = some none -> K (.next, loc) m c -> g)
  (f2 : ∀ n' v, n = n' + 1 -> n' + (k + 1) = l.length -> curL l k m = some (some v) -> f v loc (turn K (forL f K (l.drop (k + 1)))) m c -> g) : g := by
 cases hk : l[k]? with
 | none => rw [List.drop_eq_nil_of_le (List.getElem?_eq_none_iff.mp hk)] at e; exact f1 (congrArg some hk) e
 | some v =>
  obtain ⟨hlt, hv⟩ := zzA.mp hk
  rw [List.drop_eq_getElem_cons hlt, hv] at e
  cases n with
  | zero => exact absurd ((Nat.zero_add k).symm.trans j) (Nat.ne_of_lt hlt)
  | succ n => exact f2 n v rfl ((Nat.succ_add_eq_add_succ n k).symm.trans j) (congrArg some hk) e
theorem cT3 {w : MV} {w' : Value} {f : MV -> Loc -> PT (Flw × Loc)} {target : Expr} {body : List Stmt} {G : Value -> Shared -> Prop}
  (g : Cfg C d env A ρ m c loc s) (T : TurnOk C d env f target body) (rw' : Rep C s.heap ρ w w') (hK : Bd K) (e : forV f w loc K m c) (k : OutS C env ρ s K Q) :
  wpAny (model C.prog C.w) A (pyIter w') (fun it s2 => codeAny (model C.prog C.w) A (.forLoop target it body [] env) (fun r s' => match r with | .ok f => Q f s' | .error e => G e s') s2) E s := by
 have fr := aB2 s.heap
 have nz : ∀ ob, Nz C env ρ s m c loc ρ { s with heap := s.heap.push ob } := fun ob => Nz.of g.a (Nx.ext g.a.sh s.toks (nR c) (aA4 _ _))
 have nI : s.heap.objs.size ∉ ρ.a /\ s.heap.objs.size ∉ ρ.f := ⟨aB9 g.a.sh fr, fun q => ex1 (g.a.sh.froz _ q).2.2 fun o e => nomatch e.symm.trans fr⟩
 have lst : ∀ {l : List MV} {I : Nat -> Heap -> Prop} {ob : Obj}, Src C env ρ s s.heap.objs.size (curL l) I -> I 0 (s.heap.push ob) -> forL f K l loc m c ->
   codeAny (model C.prog C.w) A (.forLoop target (.ref s.heap.objs.size) body [] env) (fun r s' => match r with | .ok f => Q f s' | .error e => G e s') { s with heap := s.heap.push ob } := fun {l I ob} src i0 e =>
  bD4 (J := fun n k => n + k = l.length) (W := fun _ k => forL f K (l.drop k)) g.O g.r T src fr (g.a.sh.new0 fr) (nz ob) nI i0 hK dE1 (bA1 T.bd hK) (n := l.length) rfl e k
 cases w with
 | p t =>
  exact aG3 e fun l hl e9 => by
   subst hl
   refine ex3 rw' fun t vs n r => ?_
   obtain ⟨rfl, hx, nt, _, r⟩ := r
   exact wpAny_pyIter_tuple (items := vs.toArray) ⟨_, hx, rfl, n, rfl⟩ (lst (dA0 g.a hx nt r) ⟨_, Heap.get?_push_size _ rfl, rfl, rfl⟩ e9)
 | rng n =>
  exact ex2 rw' fun b t1 r => ex2 r fun t2 t3 r => by
   obtain ⟨rfl, hr, _, h1⟩ := r
   have hn : (0 : Int) <= n := Int.natCast_nonneg n
   have hsz : Builtin.Range.rangeSize 0 n 1 = n := by rw [rangeSize_nat]; lia
   refine wpAny_pyIter_range hr (small_one (by decide) (by decide) (by lia) (by lia)) (lst cV4 ?_ e)
   show IsRangeIter _ _ _ _ _
   rw [hsz]
   exact Heap.get?_push_size _ rfl
 | obj i =>
  exact ex1 e fun n e => ex1 rw' fun t r => by
   obtain ⟨ei, rfl⟩ := r
   exact ex1 (show ∃ o, curO i 0 m = some o from bW5 e (fun hc _ => ⟨_, hc⟩) fun _ _ _ hc _ => ⟨_, hc⟩) fun o hc => bQ9 hc fun l hl _ => ex2 (g.a.sh.cell i t _ ei hl) fun vs n1 z => wpAny_pyIter_list (aB6 z.1) (bD4 (J := fun _ _ => True) (W := fun n k => forO f i K n k) g.O g.r T (cX9 ei) fr (g.a.sh.new0 fr) (nz _) nI ⟨_, Heap.get?_push_size _ rfl, rfl, rfl⟩ hK (fun _ e f1 f2 => bW5 e f1 fun n' v q => f2 n' v q trivial) (bM3 T.bd hK) (n := n) trivial e k)
 | _ => exact e.elim
end
section
variable (C : Cx) (P : PI) (d : Nat) (fz : Str -> Bool) (cl : Orc)
noncomputable def SimX : Expr -> Prop
 | .Slice lo hi _ _ => SimO C P d fz cl lo /\ SimO C P d fz cl hi
 | .Attribute o _ _ => SimE C P d fz cl o
 | .Subscript o i _ => SimE C P d fz cl o /\ SimE C P d fz cl i
 | _ => True
end
section
variable {C : Cx} {P : PI} {N : Fns} {h' : Heap} {ρ : Rho} {m : Mem} {c n d : Nat} {s s' : Shared} {A : Around} {E : Value -> Shared -> Prop} {Q : Flow -> Shared -> Prop} {cl : Orc} {fz : Str -> Bool} {env : Env} {loc loc' : Loc}
theorem bN7 {sc : Scope} {x : Str} {v : MV} {k : Loc -> Prop} (hk : ∀ {l}, k l -> c <= bigN) (e : setN sc x v loc k) : c <= bigN := aR5 e fun _ e => hk e
theorem bB2 {sc : Scope} {t : Expr} {ts : List Expr} {v : PV} {vs : List PV} {k : Loc -> Prop} {g : Prop} (e : aW0 sc (t :: ts) (v :: vs) loc k) (f : ∀ x p, t = .Name x p -> setN sc x (.p v) loc (fun loc' => aW0 sc ts vs loc' k) -> g) : g := by
 cases t with
 | Name x p => exact f x p rfl e
 | _ => exact nO e
theorem aT4 {sc : Scope} {t : Expr} {ts : List Expr} {k : Loc -> Prop} (e : aW0 sc (t :: ts) [] loc k) : False := by
 cases t <;> exact e
theorem cE5 {sc : Scope} {ts : List Expr} : ∀ {vs : List PV} {loc : Loc} {k : Loc -> Prop}, (∀ {l}, k l -> c <= bigN) -> aW0 sc ts vs loc k -> c <= bigN := by
 induction ts with
 | nil =>
  intro vs loc k hk e
  cases vs with
  | nil => exact hk e
  | cons => exact nO e
 | cons t ts ih =>
  intro vs loc k hk e
  cases vs with
  | nil => exact (aT4 e).elim
  | cons v vs => exact bB2 e fun x p _ e => bN7 (fun e => ih hk e) e
theorem bV5 {sc : Scope} {ts : List Expr} : ∀ {vs : List PV} {loc : Loc} {k : Loc -> Prop}, aW0 sc ts vs loc k -> (assignEach ts env).length = vs.length /\ (assignEach ts env).findIdx? (·.1) = none := by
 induction ts with
 | nil =>
  intro vs loc k e
  cases vs with
  | nil => exact ⟨rfl, rfl⟩
  | cons => exact nO e
 | cons t ts ih =>
  intro vs loc k e
  cases vs with
  | nil => exact (aT4 e).elim
  | cons v vs =>
   refine bB2 e fun x p ht e => aR5 e fun _ e9 => ?_
   subst ht
   have len := ih e9
   refine ⟨congrArg (· + 1) len.1, ?_⟩
   show List.findIdx? _ ((false, _) :: assignEach ts env) = none
   rw [List.findIdx?_cons, if_neg Bool.false_ne_true, len.2]; rfl
theorem bS9 (O : EnvOk env) {ts : List Expr} : ∀ {vs : List PV} {vals : List Value} {loc : Loc} {s : Shared} {k : Loc -> Prop} {E : Value -> Shared -> Prop} {Q : Unit -> Shared -> Prop}, RepPs C s.heap ρ vs vals -> Afr C env ρ m c loc s -> aW0 env.scope ts vs loc k ->
  (∀ loc' s', k loc' -> Nz C env ρ s m c loc' ρ s' -> Q () s') -> wpAny (model C.prog C.w) A (assignInOrder ((assignEach ts env).map (·.2)) vals) Q E s := by
 induction ts with
 | nil =>
  intro vs vals loc s k E Q r a e q
  cases vs with
  | nil => cases (show vals = [] from r); exact assignInOrder_nil (q _ _ e (Nz.refl a))
  | cons => exact nO e
 | cons t ts ih =>
  intro vs vals loc s k E Q r a e q
  cases vs with
  | nil => exact (aT4 e).elim
  | cons v vs =>
   refine bB2 e fun x p ht e9 => ex2 r fun v' r' r => ?_
   obtain ⟨rfl, rv, rr⟩ := r
   subst ht
   exact assignInOrder_cons (PyProof.Rows.assign_Name (aJ3 O a (v := .p v) rv e9 fun loc1 s1 e n1 => ih (RepPs.mono (n1.keepD a) n1.grow.toLess _ _ rr) n1.at_ e fun loc' s' e n2 => q _ _ e (n1.trans n2)))
theorem bd_A {t : Expr} {v : MV} {sc : Scope} {K : Kt Loc} (hx : SimX C P d fz cl t) (hK : Bd K) (e : evA P fz cl sc t v loc K m c) : c <= bigN := by
 cases t with
 | Name x p => exact aR5 (show setN sc x v loc fun loc' => K loc' m c from e) fun _ e => hK _ _ _ e
 | Attribute o x p => exact (show SimE C P d fz cl o from hx).bd (fun _ _ _ e => bB8 (fun _ _ _ e => hK _ _ _ e) e) e
 | Subscript o i p => exact aA0 e fun _ e => (show SimE C P d fz cl o /\ SimE C P d fz cl i from hx).1.bd (fun _ _ _ e => hx.2.bd (fun _ _ _ e => aT7 (fun _ _ _ e => hK _ _ _ e) e) e) e
 | Tuple ts k p => exact aA5 e fun _ _ e => aG3 e fun _ _ e => cE5 (fun e => hK _ _ _ e) e
 | _ => exact nO e
theorem dE7 (S : StaF C P N) {t : Expr} {v : MV} {v' : Value} {K : Kt Loc} {Q : Unit -> Shared -> Prop} (hx : SimX C P d fz cl t) (g : Cfg C d env A ρ m c loc s) (rv : Rep C s.heap ρ v v') (hK : Bd K) (e : evA P fz cl env.scope t v loc K m c) (k : OutZ C env ρ s K Q) :
  wpAny (model C.prog C.w) A (assign t env v') Q E s := by
 cases t with
 | Name x p => exact PyProof.Rows.assign_Name (aJ3 g.O g.a rv (show setN env.scope x v loc fun loc' => K loc' m c from e) fun _ s' e n => k _ _ _ _ _ e n)
 | Attribute o x p =>
  rw [assign_Attribute]
  exact wpAny_bind (wpAny_holding ((show SimE C P d fz cl o from hx).sim g (fun _ _ _ e => bB8 (fun _ _ _ e => hK _ _ _ e) e) e fun b b' ρ1 m1 c₁ s1 e n1 r1 => wpAny_bind (wpAny_standAt (wpAny_bind (wpAny_holding (bX1 S.toStaC n1.sh r1 (n1.rep rv) e fun ρ2 m2 c2 s2 e n2 =>
   wpAny_release (k _ _ _ _ _ e (Nz.of g.a (n1.trans n2)))))))))
 | Subscript o i p =>
  rw [assign_Subscript]
  have hK' : Bd fun (_ : Unit) => K loc := fun _ _ _ e => hK _ _ _ e
  exact aA0 e fun _ e => wpAny_bind (wpAny_holding ((show SimE C P d fz cl o /\ SimE C P d fz cl i from hx).1.sim g (fun _ _ _ e => hx.2.bd (fun _ _ _ e => aT7 hK' e) e) e fun b b' ρ1 m1 c₁ s1 e n1 r1 =>
   wpAny_bind (wpAny_holding (hx.2.sim (g.next n1) (fun _ _ _ e => aT7 hK' e) e fun j j' ρ2 m2 c2 s2 e n2 r2 =>
    wpAny_bind (wpAny_standAt (wpAny_bind (wpAny_holding (bX3 g.cmp n2.sh (n2.rep r1) r2 (n2.rep (n1.rep rv)) e hK' fun ρ3 m3 c3 s3 e n3 =>
     wpAny_release (k _ _ _ _ _ e (Nz.of g.a ((n1.trans n2).trans n3)))))))))))
 | Tuple ts kk p =>
  refine aA5 e fun _ hv e => aG3 e fun vs hvs e9 => ?_
  subst hv hvs
  refine ex3 rv fun t vals n r => ?_
  obtain ⟨rfl, hx', nt, _, r⟩ := r
  have len := bV5 (env := env) e9
  refine assign_Tuple_tuple g.r.1 (items := vals.toArray) ⟨_, hx', rfl, n, rfl⟩ (len.1.trans (r.length.symm.trans (zzV ..).symm)) len.2 fun h' he => ?_
  have n1 : Nz C env ρ s m c loc ρ { s with heap := h' } := Nz.of g.a (Nx.ext g.a.sh s.toks (nR c) fun b o e => he b o (Nat.ne_of_lt (Heap.lt_size e)) e)
  exact bS9 g.O (RepPs.mono (n1.keepD g.a) n1.grow.toLess _ _ r) n1.at_ e9 fun _ _ e n2 => k _ _ _ _ _ e (n1.trans n2)
 | _ => exact nO e
end
section
variable {C : Cx} {P : PI} {N : Fns} {h : Heap} {m : Mem} {c n d : Nat} {K : Kt (Flw × Loc)} {Q : Flow -> Shared -> Prop} {cl : Orc} {fz : Str -> Bool} {env : Env} {loc loc' : Loc}
theorem aN7 {e : Expr} {t : Option Expr} {n : Nat} (h : bS e = false) : swapsWith e t n env = pure false := by
 cases e <;> first | rfl | exact nomatch h
theorem cF8 (O : EnvOk env) : interactive env = false := by
 unfold interactive
 rw [O.kind]; rfl
theorem bM7 {e : Expr} {pos : Pos} (he : SimE C P d fz cl e) : SimS C P d fz cl (.Expr e pos) where
 bd hK e := aA0 e fun _ e => he.bd (fun _ _ _ e => hK _ _ _ e) e
 sim g hK e k := aA0 e fun hc e => wpAny_Expr_any (he.sim g (fun _ _ _ e => hK _ _ _ e) e fun v v' ρ1 m1 c₁ s1 e n1 r1 => k _ _ _ _ _ _ e (Nz.of g.a n1) rfl) (cF8 g.O) (aN7 (Bool.not_eq_true' _ ▸ hc))
theorem bB1 {e : Option Expr} {pos : Pos} (he : ∀ x, e = some x -> SimE C P d fz cl x) : SimS C P d fz cl (.Return e pos) := by
 cases e with
 | none => exact ⟨fun hK e => hK _ _ _ e, fun g hK e k => wpAny_Return_none (k _ _ _ _ _ _ e (Nz.refl g.a) ⟨_, rfl, rfl⟩)⟩
 | some x => exact ⟨fun hK e => (he x rfl).bd (fun _ _ _ e => hK _ _ _ e) e, fun g hK e k => wpAny_Return_some ((he x rfl).sim g (fun _ _ _ e => hK _ _ _ e) e fun v v' ρ1 m1 c₁ s1 e n1 r1 => k _ _ _ _ _ _ e (Nz.of g.a n1) ⟨_, rfl, r1⟩)⟩
theorem bI2 {t e : Expr} (h : (aX5 t && aX5 e) = false) (h2 : cT2 t = true) : swappedStores [t] e env = pure none := by
 cases t with
 | Tuple ts k p => cases e <;> first | rfl | exact nomatch h
 | Name => rfl
 | Attribute => rfl
 | Subscript => rfl
 | _ => exact nomatch h2
theorem cA {t : Expr} (h2 : cT2 t = true) : (assignEach [t] env).map (·.2) = [assign t env] := by
 cases t <;> first | rfl | exact nomatch h2
theorem aZ3 (S : StaF C P N) {ts : List Expr} {e : Expr} {pos : Pos} (ht : ∀ t ∈ ts, SimX C P d fz cl t) (he : SimE C P d fz cl e) : SimS C P d fz cl (.Assign ts e pos) := by
 cases ts with
 | nil => exact ⟨fun hK e => nO e, fun g hK e k => nO e⟩
 | cons t ts => cases ts with
  | cons => exact ⟨fun hK e => nO e, fun g hK e k => nO e⟩
  | nil =>
   have hx := ht t (.head _)
   refine ⟨fun hK e => aA0 e fun _ e => he.bd (fun _ _ _ e => bd_A hx (fun _ _ _ e => hK _ _ _ e) e) e, fun g hK e k => aA0 e fun hc e => ?_⟩
   obtain ⟨h1, h2⟩ := Bool.and_eq_true_iff.mp hc
   have h2 := Bool.or_eq_false_iff.mp (Bool.not_eq_true' _ ▸ h2)
   refine wpAny_Assign_stores (he.sim g (fun _ _ _ e => bd_A hx (fun _ _ _ e => hK _ _ _ e) e) e fun v v' ρ1 m1 c₁ s1 e n1 r1 => ?_) (aN7 h2.1) (bI2 h2.2 h1)
   rw [cA h1]
   exact dE7 S (Q := fun _ => _) hx (g.next n1) r1 (fun _ _ _ e => hK _ _ _ e) e fun loc' ρ2 m2 c2 s2 e n2 => k _ _ _ _ _ _ e ((Nz.of g.a n1).trans n2) rfl
theorem cO4 {t : Expr} {b o : List Stmt} {pos : Pos} (ht : SimT C P d fz cl t) (hb : aL5 C P d fz cl b) (ho : aL5 C P d fz cl o) : SimS C P d fz cl (.If t b o pos) where
 bd hK e := ht.bd (fun _ _ _ e => br_e e (fun _ e => hb.bd hK e) fun _ e => ho.bd hK e) e
 sim g hK e k := wpAny_If (ht.sim g (fun _ _ _ e => br_e e (fun _ e => hb.bd hK e) fun _ e => ho.bd hK e) e fun x x' ρ1 m1 c₁ s1 e n1 r1 => br_e e (fun q e => by subst q r1; exact hb.sim (g.next n1) hK e (OutS.on (Nz.of g.a n1) k)) fun q e => by subst q r1; exact ho.sim (g.next n1) hK e (OutS.on (Nz.of g.a n1) k))
theorem bI9 {t : Expr} {b o : List Stmt} {pos : Pos} (ht : SimT C P d fz cl t) (hb : aL5 C P d fz cl b) : SimS C P d fz cl (.While t b o pos) where
 bd hK e := aA0 e fun _ e => ex1 e fun n e => aT6 ht hb hK e
 sim g hK e k := aA0 e fun q e => ex1 e fun n e9 => by
  cases List.isEmpty_iff.mp q
  exact wpAny_While (bL5 g.O g.a g.r ht hb hK e9 k)
theorem cX4 (S : StaF C P N) (O : EnvOk env) {t : Expr} {b : List Stmt} (ht : SimX C P d fz cl t) (hb : aL5 C P d fz cl b) : TurnOk C d env (fun v loc K => evA P fz cl env.scope t v loc fun loc' => evSs P fz cl b env.scope loc' K) t b where
 bd hK e := bd_A ht (fun _ _ _ e => hb.bd hK e) e
 sim g hK e rv k := dE7 S ht g rv (fun _ _ _ e => hb.bd hK e) e fun loc' ρ1 m1 c₁ s1 e n1 => hb.sim ⟨g.O, n1.at_, g.r⟩ hK e (OutS.on n1 k)
theorem cH7 {t : Expr} {b : List Stmt} {sc : Scope} {v : MV} (ht : SimX C P d fz cl t) (hb : aL5 C P d fz cl b) (hK : Bd K) (e : forV (fun v loc K => evA P fz cl sc t v loc fun loc' => evSs P fz cl b sc loc' K) v loc K m c) : c <= bigN :=
 cY7 (fun hK e => bd_A ht (fun _ _ _ e => hb.bd hK e) e) hK e
theorem cE2 (S : StaF C P N) {t i : Expr} {b o : List Stmt} {pos : Pos} (ht : SimX C P d fz cl t) (hi : SimE C P d fz cl i) (hb : aL5 C P d fz cl b) : SimS C P d fz cl (.For t i b o pos) where
 bd hK e := aA0 e fun _ e => hi.bd (fun _ _ _ e => cH7 ht hb hK e) e
 sim g hK e k := aA0 e fun q e9 => by
  cases List.isEmpty_iff.mp q
  exact wpAny_For (hi.sim g (fun _ _ _ e => cH7 ht hb hK e) e9 fun w w' ρ1 m1 c₁ s1 e n1 r1 => cT3 (g.next n1) (cX4 S g.O ht hb) r1 hK e (OutS.on (Nz.of g.a n1) k)) (aL7 e9)
theorem bW3 : aL5 C P d fz cl [] := ⟨fun hK e => hK _ _ _ e, fun g hK e k => wpAny_execs_nil (k _ _ _ _ _ _ e (Nz.refl g.a) rfl)⟩
theorem aP7 {go : Loc -> Mem -> Nat -> Prop} (hK : Bd K) (hg : ∀ {l m c}, go l m c -> c <= bigN) : Bd (cJ7 K go) := fun x m c e => by
 obtain ⟨f, l⟩ := x
 cases f with
 | next => exact hg e
 | _ => exact hK _ _ _ e
theorem bK2 {st : Stmt} {r : List Stmt} (hs : SimS C P d fz cl st) (hr : aL5 C P d fz cl r) : aL5 C P d fz cl (st :: r) where
 bd hK e := hs.bd (aP7 hK (hr.bd hK)) e
 sim g hK e k := wpAny_execs_cons (hs.sim g (aP7 hK (hr.bd hK)) e fun x fl ρ1 m1 c₁ s1 e n1 r1 => by
  obtain ⟨f, l⟩ := x
  cases f with
  | next => cases (show fl = .next from r1); exact hr.sim ⟨g.O, n1.at_, g.r⟩ hK e (OutS.on n1 k)
  | brk => cases (show fl = .brk from r1); exact k _ _ _ _ _ _ e n1 rfl
  | cont => cases (show fl = .cont from r1); exact k _ _ _ _ _ _ e n1 rfl
  | ret u => exact ex1 r1 fun u' rf => by obtain ⟨rfl, ru⟩ := rf; exact k _ _ _ _ _ _ e n1 ⟨u', rfl, ru⟩)
end
section
variable {C : Cx} {P : PI} {N : Fns} {h : Heap} {m : Mem} {c d : Nat} {K : Kt (Flw × Loc)} {cl : Orc} {fz : Str -> Bool} {loc loc' : Loc}
theorem bO3 {i : Expr} (h : aK8 i = false) (ov iv new : Value) : augStore i ov iv new = (do holding [new, ov, iv] (setItem ov iv new); release [new, ov, iv] []; pure .next) := by
 cases i <;> first | rfl | exact nomatch h
theorem dQ8 {op : Operator} {e : Expr} {x : Str} {p pos : Pos} {sc : Scope} {g : Prop} (q : evS P fz cl (.AugAssign (.Name x p) op e pos) sc loc K m c)
  (f : ∀ a, sc.names.lookup x = some .local -> loc.lookup x = some a -> evE P fz cl e sc loc (fun b => iop op a b (fun u m c => setN sc x u loc fun loc' => K (.next, loc') m c)) m c -> g) : g :=
 aR5 (show setN sc x n_ loc fun _ => som (loc.lookup x) fun a => evE P fz cl e sc loc (fun b => iop op a b (fun u m c => setN sc x u loc fun loc' => K (.next, loc') m c)) m c from q) fun hk q => aB q fun a ha q => f a hk ha q
theorem cF0 (S : StaF C P N) {t : Expr} {op : Operator} {e : Expr} {pos : Pos} (ht : SimX C P d fz cl t) (he : SimE C P d fz cl e) : SimS C P d fz cl (.AugAssign t op e pos) := by
 cases t with
 | Name x p =>
  have b1 : ∀ {sc : Scope} {loc : Loc} {K : Kt (Flw × Loc)} {a : MV}, Bd K -> Bd fun b => iop op a b (fun u m c => setN sc x u loc fun loc' => K (.next, loc') m c) := fun hK _ _ _ e => bd_i (fun _ _ _ e => bN7 (fun e => hK _ _ _ e) e) e
  exact ⟨fun hK e => dQ8 e fun _ _ _ e => he.bd (b1 hK) e, fun g hK e k => dQ8 e fun a hk ha e => ex1 g.a.lo fun f l => ex1 (l.2 x a ha hk) fun u' q =>
   wpAny_AugAssign_Name (wpAny_loadName_local g.O.kind hk l.1 q.1 (he.sim g (b1 hK) e fun b b' ρ1 m1 c₁ s1 e n1 r1 => op_i n1.sh (n1.rep q.2) r1 e fun w w' ρ2 m2 c2 s2 e n2 r2 =>
    aJ3 g.O ((g.a.next n1).next n2) r2 e fun loc' s3 e n3 => k _ _ _ _ _ _ e ((Nz.of g.a (n1.trans n2)).trans n3) rfl))⟩
 | Attribute o x p =>
  have ho : SimE C P d fz cl o := ht
  have b2 : ∀ {loc : Loc} {K : Kt (Flw × Loc)} {a u : MV}, Bd K -> Bd fun b => iop op u b (fun w => setA P a x w (fun _ => K (.next, loc))) := fun hK _ _ _ e => bd_i (fun _ _ _ e => bB8 (fun _ _ _ e => hK _ _ _ e) e) e
  have b1 : ∀ {sc : Scope} {loc : Loc} {K : Kt (Flw × Loc)}, Bd K -> Bd fun a => getA P a x (fun u => evE P fz cl e sc loc (fun b => iop op u b (fun w => setA P a x w (fun _ => K (.next, loc))))) := fun hK _ _ _ e => bA0 (fun _ _ _ e => he.bd (b2 hK) e) e
  exact ⟨fun hK e => ho.bd (b1 hK) e, fun g hK e k => wpAny_AugAssign_AttributeAny (ho.sim g (b1 hK) e fun a a' ρ1 m1 c₁ s1 e n1 r1 => bP3 S.toStaC n1.sh r1 e fun u u' ρ2 m2 c2 s2 e n2 r2 => he.sim ((g.next n1).next n2) (b2 hK) e fun b b' ρ3 m3 c3 s3 e n3 r3 =>
   op_i n3.sh (n3.rep r2) r3 e fun w w' ρ4 m4 c4 s4 e n4 r4 => bX1 S.toStaC n4.sh (n4.rep (n3.rep (n2.rep r1))) r4 e fun ρ5 m5 c5 s5 e n5 => k _ _ _ _ _ _ e (Nz.of g.a ((((n1.trans n2).trans n3).trans n4).trans n5)) rfl)⟩
 | Subscript o i p =>
  obtain ⟨ho, hi⟩ : SimE C P d fz cl o /\ SimE C P d fz cl i := ht
  have b0 : ∀ {loc : Loc} {K : Kt (Flw × Loc)}, Bd K -> Bd fun (_ : Unit) => K (.next, loc) := fun hK _ _ _ e => hK _ _ _ e
  have b3 : ∀ {loc : Loc} {K : Kt (Flw × Loc)} {a j u : MV}, Bd K -> Bd fun b => iop op u b (fun w => setI a j w (fun _ => K (.next, loc))) := fun hK _ _ _ e => bd_i (fun _ _ _ e => aT7 (b0 hK) e) e
  have b2 : ∀ {sc : Scope} {loc : Loc} {K : Kt (Flw × Loc)} {a : MV}, Bd K -> Bd fun j => getI a j (fun u => evE P fz cl e sc loc (fun b => iop op u b (fun w => setI a j w (fun _ => K (.next, loc))))) := fun hK _ _ _ e => aS3 (fun _ _ _ e => he.bd (b3 hK) e) e
  have b1 : ∀ {sc : Scope} {loc : Loc} {K : Kt (Flw × Loc)}, Bd K -> Bd fun a => evE P fz cl i sc loc (fun j => getI a j (fun u => evE P fz cl e sc loc (fun b => iop op u b (fun w => setI a j w (fun _ => K (.next, loc)))))) := fun hK _ _ _ e => hi.bd (b2 hK) e
  exact ⟨fun hK e => aA0 e fun _ e => ho.bd (b1 hK) e, fun g hK e k => aA0 e fun hs e => wpAny_AugAssign_SubscriptAny (ho.sim g (b1 hK) e fun a a' ρ1 m1 c₁ s1 e n1 r1 => hi.sim (g.next n1) (b2 hK) e fun j j' ρ2 m2 c2 s2 e n2 r2 =>
   bV8 g.cmp n2.sh (n2.rep r1) r2 e fun u u' ρ3 m3 c3 s3 e n3 r3 => he.sim (((g.next n1).next n2).next n3) (b3 hK) e fun b b' ρ4 m4 c4 s4 e n4 r4 => op_i n4.sh (n4.rep r3) r4 e fun w w' ρ5 m5 c5 s5 e n5 r5 =>
    bX3 g.cmp n5.sh (n5.rep (n4.rep (n3.rep (n2.rep r1)))) (n5.rep (n4.rep (n3.rep r2))) r5 e (b0 hK) fun ρ6 m6 c6 s6 e n6 => k _ _ _ _ _ _ e (Nz.of g.a (((((n1.trans n2).trans n3).trans n4).trans n5).trans n6)) rfl) (bO3 (Bool.not_eq_true' _ ▸ hs))⟩
 | _ => exact ⟨fun hK e => nO e, fun g hK e k => nO e⟩
end
structure Xp (C : Cx) (P : PI) (d : Nat) (fz : Str -> Bool) (cl : Orc) (e : Expr) : Prop where
 E : SimE C P d fz cl e
 T : SimT C P d fz cl e
 X : SimX C P d fz cl e
section
variable {C : Cx} {P : PI} {N : Fns} {d : Nat} {cl : Orc} {fz : Str -> Bool}
theorem aG {e : Expr} (hE : SimE C P d fz cl e) (hX : SimX C P d fz cl e) (h1 : ∀ sc loc w, evT P fz cl e sc loc w = fun K => w fun v => truK v K) (h2 : ∀ env whole, isTrue e env whole = (do let v <- whole; standAt e.pos; holding [v] (PySem.truthy v))) : Xp C P d fz cl e := ⟨hE, cF hE h1 h2, hX⟩
theorem bK9 {e : Expr} (hX : SimX C P d fz cl e) (h : ∀ {sc loc K m c}, evE P fz cl e sc loc K m c -> False) (h' : ∀ {sc loc K m c}, evT P fz cl e sc loc (evE P fz cl e sc loc) K m c -> False) : Xp C P d fz cl e :=
 ⟨⟨fun _ e => (h e).elim, fun _ _ e _ => (h e).elim⟩, ⟨fun _ e => (h' e).elim, fun _ _ e _ => (h' e).elim⟩, hX⟩
theorem eD6 {st : Stmt} (h : ∀ {sc loc K m c}, evS P fz cl st sc loc K m c -> False) : SimS C P d fz cl st := ⟨fun _ e => (h e).elim, fun _ _ e _ => (h e).elim⟩
theorem bY3 {es : List Expr} (h : ∀ x ∈ es, Xp C P d fz cl x) : SimL C P d fz cl es := by
 induction es with
 | nil => exact bH5
 | cons x r ih => exact aW6 (h x (.head _)).E (ih fun y q => h y (.tail _ q))
theorem dV6 {es : List Expr} (h : ∀ x ∈ es, Xp C P d fz cl x) : SimB C P d fz cl es := by
 induction es with
 | nil => exact bZ7
 | cons x r ih => exact bU6 (h x (.head _)).E (ih fun y q => h y (.tail _ q))
theorem dG8 {es : List Expr} (h : ∀ x ∈ es, Xp C P d fz cl x) : bM8 C P d fz cl es := by
 induction es with
 | nil => exact bT7
 | cons x r ih => exact bJ3 (h x (.head _)).T (ih fun y q => h y (.tail _ q))
theorem bJ (S : StaF C P N) {l : Expr} {ops : List CmpOp} {rs : List Expr} {pos : Pos} (hl : Xp C P d fz cl l) (hr : ∀ x ∈ rs, Xp C P d fz cl x) : Xp C P d fz cl (.Compare l ops rs pos) := by
 cases ops with
 | nil => exact bK9 trivial (fun e => e) fun e => e
 | cons op r => cases r with
  | cons => exact bK9 trivial (fun e => e) fun e => e
  | nil => cases rs with
   | nil => exact bK9 trivial (fun e => e) fun e => e
   | cons r rs => cases rs with
    | cons => exact bK9 trivial (fun e => e) fun e => e
    | nil => exact ⟨aO7 S.toSta hl.E (hr r (.head _)).E, aV9 S.toSta hl.E (hr r (.head _)).E, trivial⟩
theorem cQ0 {f : Expr} {args : List Expr} {pos : Pos} (h : ∀ {sc loc K m c}, evF P fz cl f pos sc loc K m c -> False) : SimE C P d fz cl (.Call f args [] pos) := ⟨fun _ e => aA0 e fun _ e => (h e).elim, fun _ _ e _ => aA0 e fun _ e => (h e).elim⟩
theorem cS2 (S : StaF C P N) (hcl : Snd C N d cl) {f : Expr} {args : List Expr} {kws : List Keyword} {pos : Pos} (hf : SimX C P d fz cl f) (ha : ∀ x ∈ args, Xp C P d fz cl x) : SimE C P d fz cl (.Call f args kws pos) := by
 cases kws with
 | cons => exact ⟨fun _ e => nO e, fun _ _ e _ => nO e⟩
 | nil => cases f with
  | Name x p => exact bL3 S hcl (bY3 ha)
  | Attribute o x ap => exact bP5 S hcl hf (bY3 ha)
  | _ => exact cQ0 fun e => e
theorem dC6 {o i : Expr} {pos : Pos} (ho : SimE C P d fz cl o) (hi : Xp C P d fz cl i) : SimE C P d fz cl (.Subscript o i pos) := by
 cases i with
 | Slice lo hi' st p => exact aY4 ho (show SimO C P d fz cl lo /\ SimO C P d fz cl hi' from hi.X).1 hi.X.2
 | _ => exact cV3 ho hi.E rfl
theorem dX6 {op : UnaryOp} {x : Expr} {pos : Pos} (hx : Xp C P d fz cl x) : Xp C P d fz cl (.UnaryOp op x pos) := by
 cases op with
 | Not => exact ⟨aN8 hx.E, cB7 hx.T, trivial⟩
 | _ => exact aG (aN8 hx.E) trivial (fun _ _ _ => rfl) fun _ _ => rfl
theorem cU9 {o : Option Expr} (h : ∀ x, o = some x -> Xp C P d fz cl x) : SimO C P d fz cl o := by
 cases o with
 | none => exact aV2
 | some x => exact aX1 (h x rfl).E
theorem bI3 {l : List Stmt} (h : ∀ st ∈ l, SimS C P d fz cl st) : aL5 C P d fz cl l := by
 induction l with
 | nil => exact bW3
 | cons x r ih => exact bK2 (h x (.head _)) (ih fun y q => h y (.tail _ q))
theorem bV9 (S : StaF C P N) (hcl : Snd C N d cl) : ∀ l : List Stmt, ∀ st ∈ l, SimS C P d fz cl st := by
 apply Expr.rec_6 (motive_1 := Xp C P d fz cl) (motive_2 := SimS C P d fz cl) (motive_3 := fun g => SimE C P d fz cl g.iter) (motive_4 := fun _ => True) (motive_5 := fun _ => True) (motive_6 := fun _ => True) (motive_7 := fun _ => True) (motive_8 := fun _ => True) (motive_9 := fun _ => True) (motive_10 := fun _ => True) (motive_11 := fun _ => True)
  (motive_12 := fun es => ∀ x ∈ es, Xp C P d fz cl x) (motive_13 := fun ks => ∀ k ∈ ks, SimO C P d fz cl k) (motive_14 := fun gs => ∀ g ∈ gs, SimE C P d fz cl g.iter) (motive_15 := fun o => ∀ x, o = some x -> Xp C P d fz cl x) (motive_16 := fun _ => True) (motive_17 := fun l => ∀ st ∈ l, SimS C P d fz cl st)
  (motive_18 := fun _ => True) (motive_19 := fun _ => True) (motive_20 := fun _ => True) (motive_21 := fun _ => True) (motive_22 := fun _ => True) (motive_23 := fun _ => True) (motive_24 := fun _ => True) (motive_25 := fun _ => True)
 case BoolOp => exact fun op es pos h => ⟨bK6 (dV6 h), bA8 (dG8 h), trivial⟩
 case BinOp => exact fun l op r pos hl hr => aG (aG8 hl.E hr.E) trivial (fun _ _ _ => rfl) fun _ _ => rfl
 case UnaryOp => exact fun op x pos hx => dX6 hx
 case IfExp => exact fun t b o pos ht hb ho => ⟨bN9 ht.T hb.E ho.E, ⟨fun _ e => nO e, fun _ _ e _ => nO e⟩, trivial⟩
 case Dict => exact fun ks vs pos hk hv => aG (bY5 hk fun v q => (hv v q).E) trivial (fun _ _ _ => rfl) fun _ _ => rfl
 case ListComp => exact fun elt gens scope pos he hg => aG (aX3 he.E hg) trivial (fun _ _ _ => rfl) fun _ _ => rfl
 case Compare => exact fun l ops rs pos hl hr => bJ S hl hr
 case Call => exact fun f args kws pos hf ha _ => aG (cS2 S hcl hf.X ha) trivial (fun _ _ _ => rfl) fun _ _ => rfl
 case Constant => exact fun c k pos => aG aE3 trivial (fun _ _ _ => rfl) fun _ _ => rfl
 case Name => exact fun x pos => aG (aJ9 S.toSta) trivial (fun _ _ _ => rfl) fun _ _ => rfl
 case Attribute => exact fun o x pos ho => aG (aU S.toStaC ho.E) ho.E (fun _ _ _ => rfl) fun _ _ => rfl
 case Subscript => exact fun o i pos ho hi => aG (dC6 ho.E hi) ⟨ho.E, hi.E⟩ (fun _ _ _ => rfl) fun _ _ => rfl
 case List => exact fun es pos h => aG (bZ3 (bY3 h)) trivial (fun _ _ _ => rfl) fun _ _ => rfl
 case Tuple => exact fun es k pos h => aG (bL9 (bY3 h)) trivial (fun _ _ _ => rfl) fun _ _ => rfl
 case Slice => exact fun lo hi st pos hl hh _ => bK9 ⟨cU9 hl, cU9 hh⟩ (fun e => e) fun e => e
 case Return => exact fun o pos h => bB1 fun x q => (h x q).E
 case Assign => exact fun ts e pos ht he => aZ3 S (fun t q => (ht t q).X) he.E
 case AugAssign => exact fun t op e pos ht he => cF0 S ht.X he.E
 case For => exact fun t i b o pos ht hi hb _ => cE2 S ht.X hi.E (bI3 hb)
 case While => exact fun t b o pos ht hb _ => bI9 ht.T (bI3 hb)
 case If => exact fun t b o pos ht hb ho => cO4 ht.T (bI3 hb) (bI3 ho)
 case Expr => exact fun e pos he => bM7 he.E
 case Pass => exact fun pos => ⟨fun hK e => hK _ _ _ e, fun g hK e k => wpAny_Pass (k _ _ _ _ _ _ e (Nz.refl g.a) rfl)⟩
 case Break => exact fun pos => ⟨fun hK e => hK _ _ _ e, fun g hK e k => wpAny_Break (k _ _ _ _ _ _ e (Nz.refl g.a) rfl)⟩
 case Continue => exact fun pos => ⟨fun hK e => hK _ _ _ e, fun g hK e k => wpAny_Continue (k _ _ _ _ _ _ e (Nz.refl g.a) rfl)⟩
 all_goals first
  | (intros; trivial)
  | exact fun _ q => absurd q List.not_mem_nil
  | exact fun x q => absurd q.symm (Option.some_ne_none x)
  | exact fun _ _ _ _ _ h _ => h.E
  | exact fun _ _ h1 h2 _ q => (List.mem_cons.mp q).elim (fun q => q ▸ h1) (h2 _)
  | exact fun _ _ h1 h2 _ q => (List.mem_cons.mp q).elim (fun q => q ▸ cU9 h1) (h2 _)
  | exact fun _ h _ q => zzC q ▸ h
  | (intros; exact bK9 trivial (fun e => e) fun e => e)
  | (intros; exact eD6 fun e => e)
theorem cK1 (S : StaF C P N) (hcl : Snd C N d cl) (l : List Stmt) : aL5 C P d fz cl l := bI3 (bV9 S hcl l)
end
section
variable {C : Cx} {P : PI} {N : Fns} {d n : Nat} {cl G : Orc} {fz : Str -> Bool} {x f : Str} {fi : FnI} {args : List MV} {K : Kt MV} {m m' : Mem} {c c' : Nat} {ρ ρ' : Rho} {s s1 s' : Shared} {env : Env} {loc' : Loc}
theorem Nz.toNx (hk : ∀ b o, s.heap.get? b = some o -> s1.heap.get? b = some o) (fr : s.heap.get? env.locals = none) (g : s1.gens = s.gens) (dd : s1.drawn = s.drawn) (os : s1.os = s.os) (n : Nz C env ρ s1 m' c' loc' ρ' s') : Nx C ρ s m' c' ρ' s' where
 sh := n.at_.sh
 keep b o e nm := n.keep b o (hk b o e) nm (aC7 e fr)
 grow := ⟨⟨fun a o e nm => n.grow.out a o (hk a o e) nm, n.grow.fr⟩, fun a q => (n.grow.frn a q).imp id fun e => (by
  cases z : s.heap.get? a with
  | none => rfl
  | some o => exact nomatch (hk a o z).symm.trans e), n.grow.at_⟩
 gens := n.gens.trans g
 drawn := n.drawn.trans dd
 os := n.os.trans os
theorem dH {d d' : Nat} {A : Around} (h : d <= d') (r : cO3 d' A) : cO3 d A :=
 ⟨r.1, zzG (zzS (zzD (Nat.mul_le_mul_left 2 h) _) 2) r.2.1, zzG (zzS (zzD (Nat.mul_le_mul_left 20 h) _) 100) r.2.2⟩
theorem Snd.mono {d d' : Nat} (h : d <= d') (S : Snd C N d cl) : Snd C N d' cl := fun x f args K m c hK e => ⟨(S x f args K m c hK e).1, fun a ρ s A vals R ha hR => (S x f args K m c hK e).2 a ρ s A vals R ha (dH h hR)⟩
theorem aZ (S : StaF C P N) (hcl : Snd C N d cl) (hf : P.fn x f = some fi) {gc : Bool} (hK : Bd K) (e : cD8 P fz gc cl fi args K m c) : c <= bigN /\ Good C N (d + 1) x f args K m c := aA0 e fun hl e => by
 have X := cK1 (fz := fz) S hcl fi.body
 refine ⟨X.bd (cK7 hK) e, fun a ρ s A vals R ha hR H r k => ex1 (S.fn _ _ _ hf) fun a' q => ?_⟩
 obtain ⟨ha', F⟩ := q
 cases ha.symm.trans ha'
 refine bH0 S.toSta F H r (zzX hl) (zzG (by lia) hR.2.1) fun env s1 E' O hsc a1 hk fr g dd os => ?_
 have hA : aN3 d (A.deeper env) := ⟨hR.1, by have := hR.2.1; rw [depth_deeper]; lia, by have := hR.2.2; rw [units_deeper]; lia⟩
 refine X.sim ⟨O, a1, hA⟩ (cK7 (gc := gc) (n := m.length) hK) (hsc.symm ▸ e) fun x fl ρ' m' c' s' e n rf => ?_
 have nx := n.toNx hk fr g dd os
 obtain ⟨y, loc'⟩ := x
 cases y with
 | next =>
  cases (show fl = .next from rf)
  exact br_e e (fun _ e => bD H nx (v := n_) rfl e k) fun _ e => k _ _ _ _ _ _ e nx rfl
 | ret u =>
  refine ex1 rf fun u' rf => ?_
  obtain ⟨rfl, ru⟩ := rf
  exact br_e e (fun _ e => bD H nx ru e k) fun _ e => k _ _ _ _ _ _ e nx ru
 | _ => exact e.elim
theorem aR9 {H : How} (S : StaF C P N) (hG : Snd C N d G) {n : Nat} : Snd C N (d + n) (inl P H G n) := by
 induction n with
 | zero => exact hG
 | succ n ih => exact fun x f args K m c hK e => br_e e (fun _ e => (hG.mono (nA d (n + 1))) x f args K m c hK e) fun _ e => aB e fun fi hf e => aZ S ih hf hK e
end
noncomputable def ix : List Nat -> Nat -> Nat -> Option Nat
 | [], _, _ => none
 | k :: r, i, n => match Nat.beq k i with | true => some n | false => ix r i (n + 1)
noncomputable def renV (sel : List Nat) : MV -> MV
 | .obj i => match ix sel i 0 with | some j => .obj j | none => .any
 | .inst i c => match ix sel i 0 with | some j => .inst j c | none => .any
 | v => v
noncomputable def renO (sel : List Nat) : MO -> MO
 | .pl l => .pl l
 | .list l => .list (l.map (renV sel))
 | .dict es => .dict (es.map fun e => (e.1, renV sel e.2))
 | .attrs es => .attrs (es.map fun e => (e.1, renV sel e.2))
noncomputable def aI0 (sel : List Nat) (m : Mem) : List Nat -> Option Mem
 | [] => some []
 | i :: r => match m[i]? with
  | some o => match aI0 sel m r with
   | some l => some (renO sel o :: l)
   | none => none
  | none => none
noncomputable def aQ8 (sel : List Nat) (loc : Loc) : List Str -> Option Loc
 | [] => some []
 | x :: r => match loc.lookup x with
  | some u => match aQ8 sel loc r with
   | some l => some ((x, renV sel u) :: l)
   | none => none
  | none => none
noncomputable def aW9 : List Nat -> Bool
 | [] => true
 | i :: r => (ix r i 0).isNone && aW9 r
structure Reb (sel : List Nat) (ρ ρ' : Rho) : Prop where
 at_ : ∀ {i j a}, ix sel i 0 = some j -> ρ.a[i]? = some a -> ρ'.a[j]? = some a
 out : ∀ a, a ∉ ρ.a -> a ∉ ρ'.a
 fr : ρ'.f = ρ.f
section
variable {C : Cx} {h : Heap} {ρ ρ' : Rho} {m m' : Mem} {c : Nat} {s : Shared} {env : Env} {loc loc' : Loc} {sel : List Nat}
theorem Reb.less (g : Reb sel ρ ρ') : Less ρ ρ' h := ⟨fun a _ _ => g.out a, fun a q => g.fr ▸ q⟩
theorem Rep.ren (g : Reb sel ρ ρ') {x : MV} {v : Value} (r : Rep C h ρ x v) : Rep C h ρ' (renV sel x) v := by
 cases x with
 | p x => exact RepP.mono aD5 g.less x v r
 | obj i =>
  refine ex1 r fun a r => ?_
  show Rep C h ρ' (match ix sel i 0 with | some j => .obj j | none => .any) v
  cases e : ix sel i 0 with
  | none => exact ⟨a, r.2⟩
  | some j => exact ⟨a, g.at_ e r.1, r.2⟩
 | inst i cl =>
  refine ex3 r fun x dx A r => ?_
  show Rep C h ρ' (match ix sel i 0 with | some j => .inst j cl | none => .any) v
  cases e : ix sel i 0 with
  | none => exact ⟨x, r.1⟩
  | some j => exact ⟨x, dx, A, r.1, g.at_ e r.2.1, r.2.2.1, r.2.2.2.1, g.out _ r.2.2.2.2⟩
 | glob s => exact r
 | blt s => exact r
 | rng n => exact ex2 r fun a t1 r => ex2 r fun t2 t3 r => ⟨a, t1, t2, t3, r.1, r.2.1, g.out _ r.2.2.1, r.2.2.2⟩
 | frz l => exact ex2 r fun a vs r => ⟨a, vs, r.1, r.2.1, g.out _ r.2.2.1, r.2.2.2.1, RepPs.mono aD5 g.less _ _ r.2.2.2.2⟩
 | any => exact r
theorem Reps.ren (g : Reb sel ρ ρ') {l : List MV} : ∀ {vs : List Value}, Reps C h ρ l vs -> Reps C h ρ' (l.map (renV sel)) vs := by
 induction l with
 | nil => exact fun r => r
 | cons x l ih => exact fun r => ex2 r fun v r' r => ⟨v, r', r.1, r.2.1.ren g, ih r.2.2⟩
theorem Ents.ren (g : Reb sel ρ ρ') {l : List (Str × MV)} : ∀ {es}, Ents C h ρ l es -> Ents C h ρ' (l.map fun e => (e.1, renV sel e.2)) es := by
 induction l with
 | nil => exact fun r => r
 | cons x l ih => exact fun r => ex2 r fun v r' r => ⟨v, r', r.1, r.2.1, r.2.2.1.ren g, ih r.2.2.2⟩
theorem PairK.ren (g : Reb sel ρ ρ') {l : List (PV × MV)} : ∀ {es}, PairK C h ρ l es -> PairK C h ρ' (l.map fun e => (e.1, renV sel e.2)) es := by
 induction l with
 | nil => exact fun r => r
 | cons x l ih => exact fun r => ex2 r fun v r' r => ⟨v, r', r.1, r.2.1.ren g, ih r.2.2⟩
theorem PairT.ren (g : Reb sel ρ ρ') {l : List (PV × MV)} : ∀ {es}, PairT C h ρ l es -> PairT C h ρ' (l.map fun e => (e.1, renV sel e.2)) es := by
 induction l with
 | nil => exact fun r => r
 | cons x l ih => exact fun r => ex3 r fun a v r' r => ⟨a, v, r', r.1, RepP.mono aD5 g.less _ _ r.2.1, r.2.2.1.ren g, ih r.2.2.2⟩
theorem allK_ren {n : Nat} {es : List (PV × MV)} : allK n (es.map fun e => (e.1, renV sel e.2)) = allK n es := by
 induction es with
 | nil => rfl
 | cons x es ih => exact congrArg (_ && ·) ih
theorem CellOk.ren (g : Reb sel ρ ρ') {a : Addr} {o : MO} (r : CellOk C h ρ a c o) : CellOk C h ρ' a c (renO sel o) := by
 cases o with
 | pl l => exact ex2 r fun vs n r => ⟨vs, n, r.1, RepPs.mono aD5 g.less _ _ r.2.1, r.2.2⟩
 | list l => exact ex2 r fun vs n r => ⟨vs, n, r.1, r.2.1.ren g, (zzZ ..).symm ▸ r.2.2⟩
 | attrs l => exact ex2 r fun vs n r => ⟨vs, n, r.1, r.2.ren g⟩
 | dict l => exact ⟨⟨r.1.is, fun n hn q => ex1 (r.1.kk n hn (allK_ren.symm.trans q)) fun kvs r => ⟨kvs, r.1, r.2.ren g⟩, fun q => ex1 (r.1.tk (allK_ren.symm.trans q)) fun xs r => ⟨xs, r.1, r.2.ren g⟩⟩, (zzZ ..).symm ▸ r.2⟩
theorem dY9 {i : Nat} {sel : List Nat} : ∀ {n j : Nat}, ix sel i n = some j -> ∃ k, j = n + k /\ sel[k]? = some i := by
 induction sel with
 | nil => exact fun e => nomatch e
 | cons x r ih =>
  intro n j
  show (match Nat.beq x i with | true => some n | false => ix r i (n + 1)) = some j -> _
  cases q : Nat.beq x i with
  | true => exact fun e => ⟨0, (zzC e).symm, congrArg some (zzX q)⟩
  | false => exact fun e => ex1 (ih e) fun k z => ⟨k + 1, z.1.trans (by rw [Nat.add_assoc, Nat.add_comm 1 k]), z.2⟩
theorem eE1 {i : Nat} {sel : List Nat} : ∀ {n : Nat}, ix sel i n = none -> i ∉ sel := by
 induction sel with
 | nil => exact fun _ q => nomatch q
 | cons x r ih =>
  intro n
  show (match Nat.beq x i with | true => some n | false => ix r i (n + 1)) = none -> _
  cases q : Nat.beq x i with
  | true => exact fun e => nomatch e
  | false =>
   refine fun e z => (List.mem_cons.mp z).elim (fun z => ?_) (ih e)
   subst z
   exact nomatch (Nat.beq_refl _).symm.trans q
theorem bC1 {m : Mem} {l : List Nat} : ∀ {m' : Mem}, aI0 sel m l = some m' -> m'.length = l.length /\ (∀ i ∈ l, i < m.length) /\ ∀ (k : Nat) (o : MO), m'[k]? = some o -> ∃ (i : Nat) (o' : MO), l[k]? = some i /\ m[i]? = some o' /\ o = renO sel o' := by
 induction l with
 | nil =>
  intro m' e
  cases e
  exact And.intro rfl (And.intro (fun i (q : i ∈ []) => (List.not_mem_nil q).elim) fun k o q => by cases q)
 | cons i r ih =>
  intro m'
  show (match m[i]? with | some o => (match aI0 sel m r with | some l => some (renO sel o :: l) | none => none) | none => none) = some m' -> _
  cases q : m[i]? with
  | none => exact fun e => nomatch e
  | some o => cases q2 : aI0 sel m r with
   | none => exact fun e => nomatch e
   | some l =>
    refine fun e => ?_
    cases e
    have := ih q2
    refine ⟨congrArg (· + 1) this.1, fun j hj => (List.mem_cons.mp hj).elim (fun z => z ▸ (zzA.mp q).1) (this.2.1 j), fun k o' e => ?_⟩
    cases k with
    | zero => cases e; exact ⟨i, o, rfl, q, rfl⟩
    | succ k => exact this.2.2 k o' e
theorem bD2 {l : List Str} : ∀ {loc' : Loc}, aQ8 sel loc l = some loc' -> ∀ x v, loc'.lookup x = some v -> ∃ u, loc.lookup x = some u /\ v = renV sel u := by
 induction l with
 | nil =>
  intro loc' e
  cases e
  exact fun x v q => nomatch q
 | cons y r ih =>
  intro loc'
  show (match loc.lookup y with | some u => (match aQ8 sel loc r with | some l => some ((y, renV sel u) :: l) | none => none) | none => none) = some loc' -> _
  cases q : loc.lookup y with
  | none => exact fun e => nomatch e
  | some o => cases q2 : aQ8 sel loc r with
   | none => exact fun e => nomatch e
   | some l =>
    refine fun e x v => ?_
    cases e
    rw [zzQ]
    by_cases z : x = y
    ·rw [beq_iff_eq.mpr z]; exact fun e => ⟨o, z ▸ q, (zzC e).symm⟩
    ·rw [beq_false_of_ne z]; exact ih q2 x v
theorem bF4 {l : List Nat} (q : aW9 l = true) : l.Nodup := by
 induction l with
 | nil => exact List.nodup_nil
 | cons i r ih => exact aA q fun q1 q2 => List.nodup_cons.mpr ⟨eE1 (Option.isNone_iff_eq_none.mp q1), ih q2⟩
theorem Sh.pick (H : Sh C ρ m c h) (h1 : aI0 sel m sel = some m') (h3 : aW9 sel = true) : ∃ ρ', Sh C ρ' m' c h /\ Reb sel ρ ρ' /\ (∀ {b}, b ∈ ρ'.a -> b ∈ ρ.a) /\ ∀ {k i b : Nat}, sel[k]? = some i -> ρ.a[i]? = some b -> ρ'.a[k]? = some b := by
 have P := bC1 h1
 have val : ∀ {k i : Nat}, sel[k]? = some i -> ∃ b, ρ.a[i]? = some b := fun e => ⟨_, zzT (H.len ▸ P.2.1 _ (zzL e))⟩
 let ρ' : Rho := ⟨sel.map fun i => (ρ.a[i]?).getD 0, ρ.f⟩
 have at1 : ∀ {k i b : Nat}, sel[k]? = some i -> ρ.a[i]? = some b -> ρ'.a[k]? = some b := fun {k i b} e1 e2 => by
  show (sel.map fun i => (ρ.a[i]?).getD 0)[k]? = _
  rw [zza, e1]
  exact congrArg some (congrArg (fun o => Option.getD o 0) e2)
 have at2 : ∀ {k b : Nat}, ρ'.a[k]? = some b -> ∃ i, sel[k]? = some i /\ ρ.a[i]? = some b := fun {k b} e => by
  refine ex1 (Option.map_eq_some_iff.mp (show sel[k]?.map (fun i => (ρ.a[i]?).getD 0) = some b from zza (f := fun i => (ρ.a[i]?).getD 0) (l := sel) ▸ e)) fun i z => ⟨i, z.1, ?_⟩
  exact ex1 (val z.1) fun b' w => w.trans (by rw [<- z.2, w]; rfl)
 have sub : ∀ {b}, b ∈ ρ'.a -> b ∈ ρ.a := fun q => ex1 (zzM.mp q) fun k e => ex1 (at2 e) fun i z => zzL z.2
 have g : Reb sel ρ ρ' := ⟨fun e q => ex1 (dY9 e) fun k z => by rw [z.1, Nat.zero_add]; exact at1 z.2 q, fun b q z => q (sub z), rfl⟩
 refine ⟨ρ', ⟨(zzZ ..).trans P.1.symm, ?_, fun b q => H.fresh b (sub q), fun b q => ⟨(H.froz b q).1, fun z => (H.froz b q).2.1 (sub z), (H.froz b q).2.2⟩, H.keep0, fun k b o e1 e2 => ?_⟩, g, sub, at1⟩
 ·show (sel.map fun i => (ρ.a[i]?).getD 0).Nodup
  refine List.pairwise_map.mpr ((bF4 h3).imp_of_mem fun {i j} hi hj ne e => ne ?_)
  exact ex1 (zzM.mp hi) fun k ek => ex1 (zzM.mp hj) fun k' ek' => ex1 (val ek) fun b eb => ex1 (val ek') fun b' eb' => by
   rw [eb, eb'] at e
   exact aE H.nodup eb ((show b = b' from e) ▸ eb')
 ·exact ex1 (at2 e1) fun i z => ex2 (P.2.2 k o e2) fun i' o' w => by
   cases z.1.symm.trans w.1
   rw [w.2.2]
   exact (H.cell i b o' z.2 w.2.1).ren g
theorem bW0 (a : Afr C env ρ m c loc s) {ns : List Str} (h1 : aI0 sel m sel = some m') (h2 : aQ8 sel loc ns = some loc') (h3 : aW9 sel = true) : ∃ ρ', Afr C env ρ' m' c loc' s :=
 ex1 (a.sh.pick h1 h3) fun ρ' q => ⟨ρ', q.1,
  ex1 a.lo fun f l => ⟨f, l.1, fun x v e k => ex1 (bD2 h2 x v e) fun u z => ex1 (l.2 x u z.1 k) fun v' w => ⟨v', w.1, z.2 ▸ w.2.ren q.2.1⟩⟩,
  fun x v e k => ex1 (bD2 h2 x v e) fun u z => ex2 (a.ce x u z.1 k) fun y v' r => ⟨y, v', r.1, r.2.1, q.2.1.out _ r.2.2.1, z.2 ▸ r.2.2.2.ren q.2.1⟩, ⟨q.2.1.out _ a.nl.1, q.2.1.fr.symm ▸ a.nl.2⟩, a.n0⟩
end
noncomputable def aG4 (o : Obj) : Bool := match o.cls with
 | .type "list" => true
 | .type "dict" => true
 | _ => false
section
variable {C : Cx} {h : Heap} {ρ ρ' : Rho}
theorem RepP.unhide (hid : ∀ a ∈ ρ'.a, a ∈ ρ.a ∨ ∃ o, h.get? a = some o /\ aG4 o = true) (hf : ∀ a ∈ ρ.f, a ∈ ρ'.f /\ a ∉ ρ'.a) (x : PV) : ∀ v, RepP C h ρ x v -> RepP C h ρ' x v := by
 have no : ∀ {a o}, h.get? a = some o -> aG4 o = false -> a ∉ ρ.a -> a ∉ ρ'.a := fun e k n q => (hid _ q).elim n fun w => ex1 w fun o' w => by
  cases e.symm.trans w.1
  exact Bool.noConfusion (k.symm.trans w.2)
 exact PV.rec (motive_1 := fun x => ∀ v, RepP C h ρ x v -> RepP C h ρ' x v) (motive_2 := fun l => ∀ vs, RepPs C h ρ l vs -> RepPs C h ρ' l vs)
  (fun _ r => r) (fun _ _ r => r) (fun _ _ r => r) (fun _ _ r => r)
  (fun _ ih _ r => ex3 r fun a vs n r => ⟨a, vs, n, r.1, r.2.1, no r.2.1 rfl r.2.2.1, r.2.2.2.1, ih _ r.2.2.2.2⟩)
  (fun _ _ _ ih _ r => ex3 r fun x dx A r => ex3 r fun es n vs r => ⟨x, dx, A, es, n, vs, r.1, r.2.1, r.2.2.1, no r.2.2.1 rfl r.2.2.2.1,
   r.2.2.2.2.1, (hf _ r.2.2.2.2.2.2.1).2, (hf _ r.2.2.2.2.2.2.1).1, r.2.2.2.2.2.2.2.1, ih _ r.2.2.2.2.2.2.2.2⟩)
  (fun _ r => r) (fun _ _ i1 i2 _ r => ex2 r fun v r' r => ⟨v, r', r.1, i1 _ r.2.1, i2 _ r.2.2⟩) x
theorem RepPs.unhide (hid : ∀ a ∈ ρ'.a, a ∈ ρ.a ∨ ∃ o, h.get? a = some o /\ aG4 o = true) (hf : ∀ a ∈ ρ.f, a ∈ ρ'.f /\ a ∉ ρ'.a) (l : List PV) : ∀ vs, RepPs C h ρ l vs -> RepPs C h ρ' l vs := by
 induction l with
 | nil => exact fun _ r => r
 | cons x l ih => exact fun _ r => ex2 r fun v r' r => ⟨v, r', r.1, RepP.unhide hid hf x v r.2.1, ih _ r.2.2⟩
end
noncomputable def renB (sel : List Nat) : MV -> MV
 | .obj j => match sel[j]? with | some i => .obj i | none => .any
 | .inst j c => match sel[j]? with | some i => .inst i c | none => .any
 | .frz _ => .any
 | .rng _ => .any
 | v => v
noncomputable def bC0 (sel : List Nat) : MO -> MO
 | .pl l => .pl l
 | .list l => .list (l.map (renB sel))
 | .dict es => .dict (es.map fun e => (e.1, renB sel e.2))
 | .attrs es => .attrs (es.map fun e => (e.1, renB sel e.2))
noncomputable def putB (sel0 : List Nat) : List Nat -> Mem -> Mem -> Mem
 | i :: r, o :: m1, m => putB sel0 r m1 (m.set i (bC0 sel0 o))
 | _, _, m => m
noncomputable def Of (G : Orc) : Orc := fun x f args K m c => ∃ sel m0, aI0 sel m sel = some m0 /\ aW9 sel = true /\
 G x f (args.map (renV sel)) (fun v m1 c1 => ∃ c2, (c <= c2 /\ c1 <= c2) /\ ((sel.length <= m1.length /\ (∃ p, v = .p p) /\ K v (putB sel sel m1 m) c2) ∨ ∃ l m2, m1 = m2 ++ [.pl l] /\ m2.length = sel.length /\ v = .obj sel.length /\ K (.obj m.length) (putB sel sel m2 m ++ [.pl l]) c2)) m0 c
section
variable {C : Cx} {h : Heap} {ρ ρ' : Rho} {sel : List Nat}
theorem Rep.back (hid : ∀ a ∈ ρ'.a, a ∈ ρ.a ∨ ∃ o, h.get? a = some o /\ aG4 o = true) (hf : ∀ a ∈ ρ.f, a ∈ ρ'.f /\ a ∉ ρ'.a) (hs : ∀ (j i : Nat) (a : Addr), sel[j]? = some i -> ρ.a[j]? = some a -> ρ'.a[i]? = some a) {x : MV} {v : Value} (r : Rep C h ρ x v) : Rep C h ρ' (renB sel x) v := by
 have no : ∀ {a o}, h.get? a = some o -> aG4 o = false -> a ∉ ρ.a -> a ∉ ρ'.a := fun e k n q => (hid _ q).elim n fun w => ex1 w fun o' w => by
  cases e.symm.trans w.1
  exact Bool.noConfusion (k.symm.trans w.2)
 cases x with
 | p x => exact RepP.unhide hid hf x v r
 | obj j =>
  refine ex1 r fun a r => ?_
  show Rep C h ρ' (match sel[j]? with | some i => .obj i | none => .any) v
  cases e : sel[j]? with
  | none => exact ⟨a, r.2⟩
  | some i => exact ⟨a, hs j i a e r.1, r.2⟩
 | inst j cl =>
  refine ex3 r fun x dx A r => ?_
  show Rep C h ρ' (match sel[j]? with | some i => .inst i cl | none => .any) v
  cases e : sel[j]? with
  | none => exact ⟨x, r.1⟩
  | some i => exact ⟨x, dx, A, r.1, hs j i dx e r.2.1, r.2.2.1, r.2.2.2.1, no r.2.2.2.1 rfl r.2.2.2.2⟩
 | glob s => exact r
 | blt s => exact r
 | any => exact r
 | rng n => exact ex2 r fun a _ r => ex2 r fun _ _ r => ⟨a, r.1⟩
 | frz l => exact ex2 r fun a _ r => ⟨a, r.1⟩
section
variable (hid : ∀ a ∈ ρ'.a, a ∈ ρ.a ∨ ∃ o, h.get? a = some o /\ aG4 o = true) (hf : ∀ a ∈ ρ.f, a ∈ ρ'.f /\ a ∉ ρ'.a) (hs : ∀ (j i : Nat) (a : Addr), sel[j]? = some i -> ρ.a[j]? = some a -> ρ'.a[i]? = some a)
include hid hf hs
theorem Reps.back {l : List MV} : ∀ {vs : List Value}, Reps C h ρ l vs -> Reps C h ρ' (l.map (renB sel)) vs := by
 induction l with
 | nil => exact fun r => r
 | cons x l ih => exact fun r => ex2 r fun v r' r => ⟨v, r', r.1, Rep.back hid hf hs r.2.1, ih r.2.2⟩
theorem Ents.back {l : List (Str × MV)} : ∀ {es}, Ents C h ρ l es -> Ents C h ρ' (l.map fun e => (e.1, renB sel e.2)) es := by
 induction l with
 | nil => exact fun r => r
 | cons x l ih => exact fun r => ex2 r fun v r' r => ⟨v, r', r.1, r.2.1, Rep.back hid hf hs r.2.2.1, ih r.2.2.2⟩
theorem PairK.back {l : List (PV × MV)} : ∀ {es}, PairK C h ρ l es -> PairK C h ρ' (l.map fun e => (e.1, renB sel e.2)) es := by
 induction l with
 | nil => exact fun r => r
 | cons x l ih => exact fun r => ex2 r fun v r' r => ⟨v, r', r.1, Rep.back hid hf hs r.2.1, ih r.2.2⟩
theorem PairT.back {l : List (PV × MV)} : ∀ {es}, PairT C h ρ l es -> PairT C h ρ' (l.map fun e => (e.1, renB sel e.2)) es := by
 induction l with
 | nil => exact fun r => r
 | cons x l ih => exact fun r => ex3 r fun a v r' r => ⟨a, v, r', r.1, RepP.unhide hid hf _ _ r.2.1, Rep.back hid hf hs r.2.2.1, ih r.2.2.2⟩
theorem aY9 {n : Nat} {es : List (PV × MV)} : allK n (es.map fun e => (e.1, renB sel e.2)) = allK n es := by
 induction es with
 | nil => rfl
 | cons x es ih => exact congrArg (_ && ·) ih
theorem aV0 {a : Addr} {c : Nat} {o : MO} (r : CellOk C h ρ a c o) : CellOk C h ρ' a c (bC0 sel o) := by
 cases o with
 | pl l => exact ex2 r fun vs n r => ⟨vs, n, r.1, RepPs.unhide hid hf l vs r.2.1, r.2.2⟩
 | list l => exact ex2 r fun vs n r => ⟨vs, n, r.1, Reps.back hid hf hs r.2.1, (zzZ ..).symm ▸ r.2.2⟩
 | attrs l => exact ex2 r fun vs n r => ⟨vs, n, r.1, Ents.back hid hf hs r.2⟩
 | dict l => exact ⟨⟨r.1.is, fun n hn q => ex1 (r.1.kk n hn ((aY9 hid hf hs).symm.trans q)) fun kvs r => ⟨kvs, r.1, PairK.back hid hf hs r.2⟩, fun q => ex1 (r.1.tk ((aY9 hid hf hs).symm.trans q)) fun xs r => ⟨xs, r.1, PairT.back hid hf hs r.2⟩⟩, (zzZ ..).symm ▸ r.2⟩
end
theorem aI7 {s₀ : List Nat} (r : List Nat) : ∀ {m1 m : Mem}, (putB s₀ r m1 m).length = m.length := by
 induction r with
 | nil => exact rfl
 | cons j r ih =>
  intro m1 m
  cases m1 with
  | nil => rfl
  | cons o m1 => exact ih.trans List.length_set
theorem bF {s₀ : List Nat} {i : Nat} (r : List Nat) : ∀ {m1 m : Mem}, i ∉ r -> (putB s₀ r m1 m)[i]? = m[i]? := by
 induction r with
 | nil => exact fun _ => rfl
 | cons j r ih =>
  intro m1 m h
  cases m1 with
  | nil => rfl
  | cons o m1 => exact (ih fun q => h (.tail _ q)).trans (List.getElem?_set_ne fun (q : j = i) => h (q ▸ List.mem_cons_self))
theorem cS9 {s₀ : List Nat} {i : Nat} (r : List Nat) : ∀ {m1 m : Mem} {k : Nat}, r.Nodup -> r.length <= m1.length -> i < m.length -> r[k]? = some i -> ∃ o, m1[k]? = some o /\ (putB s₀ r m1 m)[i]? = some (bC0 s₀ o) := by
 induction r with
 | nil => exact fun _ _ _ q => nomatch q
 | cons j r ih =>
  intro m1 m k nd hl hi q
  have nd := List.nodup_cons.mp nd
  cases m1 with
  | nil => exact nomatch hl
  | cons o m1 => cases k with
   | zero =>
    cases q
    exact ⟨o, rfl, (bF r nd.1).trans (zze hi)⟩
   | succ k => exact ih nd.2 (zzK hl) (List.length_set.symm ▸ hi) q
end
section
variable {C : Cx} {N : Fns} {d : Nat} {G : Orc}
theorem bZ {h : Heap} {ρ : Rho} {a : Addr} {c : Nat} {o : MO} (r : CellOk C h ρ a c o) : ∃ x, h.get? a = some x /\ aG4 x = true := by
 cases o with
 | pl l => exact ex2 r fun vs n r => ⟨_, r.1, rfl⟩
 | list l => exact ex2 r fun vs n r => ⟨_, r.1, rfl⟩
 | attrs l => exact ex2 r fun vs n r => ⟨_, r.1, rfl⟩
 | dict l => exact ex1 r.1.is fun o q => ⟨o, q.1, by unfold aG4; rw [q.2.1]; rfl⟩
theorem CellOk.le {h : Heap} {ρ : Rho} {a : Addr} {c c' : Nat} {o : MO} (r : CellOk C h ρ a c o) (hc : c <= c') : CellOk C h ρ a c' o := by
 cases o with
 | pl l => exact ex2 r fun vs n r => ⟨vs, n, r.1, r.2.1, nT r.2.2 hc⟩
 | list l => exact ex2 r fun vs n r => ⟨vs, n, r.1, r.2.1, nT r.2.2 hc⟩
 | attrs l => exact r
 | dict l => exact ⟨r.1, nT r.2 hc⟩
theorem aK0 (S : Snd C N d G) : Snd C N d (Of G) := fun x f args K m c hK e => by
 obtain ⟨sel, m0, h1, h3, q⟩ := e
 have z := S x f _ _ m0 c (fun v m1 c1 w => ex1 w fun c2 w => nT w.1.2 (w.2.elim (fun w => hK _ _ _ w.2.2) fun w => ex2 w fun l m2 w => hK _ _ _ w.2.2.2)) q
 refine ⟨z.1, fun a ρ s A vals R ha hR H r k => ?_⟩
 refine ex1 (H.pick h1 h3) fun ρ0 w => ?_
 obtain ⟨H0, g, sub, at1⟩ := w
 have nds := bF4 h3
 have L0 : ρ0.a.length = sel.length := H0.len.trans (bC1 h1).1
 have slt := (bC1 h1).2.1
 refine z.2 a ρ0 s A _ R ha hR H0 (r.ren g) fun v v' ρ1 m1 c1 s1 w n rv => ?_
 have obj : ∀ a ∈ ρ.a, ∃ o, s.heap.get? a = some o /\ aG4 o = true := fun a q => ex1 (zzM.mp q) fun i ei => by
  have hi : i < m.length := H.len ▸ (zzA.mp ei).1
  exact bZ (H.cell i a _ ei (zzT hi))
 have old : ∀ (i : Nat) (a : Addr), ρ0.a[i]? = some a -> ρ1.a[i]? = some a := fun i a e => n.grow.at_ e
 have new : ∀ a ∈ ρ1.a.drop sel.length, s.heap.get? a = none := fun a q => by
  cases e : s.heap.get? a with
  | none => rfl
  | some o =>
   have hm : a ∈ ρ1.a := List.mem_of_mem_drop q
   by_cases h0 : a ∈ ρ0.a
   ·refine ex1 (zzM.mp h0) fun i ei => ex1 (zzM.mp q) fun j ej => ?_
    rw [List.getElem?_drop] at ej
    have := aE n.sh.nodup (old i a ei) ej
    have hi := (zzA.mp ei).1
    exact absurd this (by lia)
   ·exact absurd hm (n.grow.out a o e h0)
 have keep : Keep ρ s.heap s1.heap := fun b o e nb => n.keep b o e fun q => nb (sub q)
 refine ex1 w fun c2 hw => ?_
 have facts : ∀ ex : List Addr, ex.Sublist (ρ1.a.drop sel.length) -> ∀ ρ2 : Rho, ρ2 = ⟨ρ.a ++ ex, ρ1.f⟩ -> (∀ a ∈ ρ2.a, a ∈ ρ1.a ∨ ∃ o, s1.heap.get? a = some o /\ aG4 o = true) /\ (∀ a ∈ ρ1.f, a ∈ ρ2.f /\ a ∉ ρ2.a) /\ (∀ (j i : Nat) (a : Addr), sel[j]? = some i -> ρ1.a[j]? = some a -> ρ2.a[i]? = some a) /\ Grow ρ ρ2 s.heap /\ ρ2.a.Nodup /\ (∀ a ∈ ρ2.a, C.h₀.get? a = none) /\ (∀ a ∈ ρ2.f, C.h₀.get? a = none /\ a ∉ ρ2.a /\ ∃ o, s1.heap.get? a = some o) := fun ex exs ρ2 e2 => by
  subst e2
  have inex : ∀ {a}, a ∈ ex -> a ∈ ρ1.a.drop sel.length := fun q => exs.subset q
  have low : ∀ {i : Nat} {a : Addr}, ρ.a[i]? = some a -> (ρ.a ++ ex)[i]? = some a := fun e => (zzH (zzA.mp e).1).trans e
  have hf : ∀ a ∈ ρ1.f, a ∈ ρ1.f /\ a ∉ ρ.a ++ ex := fun a q => ⟨q, fun w => (zzP.mp w).elim (fun w => (n.grow.frn a q).elim (fun y => (H.froz a (g.fr ▸ y)).2.1 w) fun y => ex1 (obj a w) fun o z => nomatch y.symm.trans z.1) fun w => (n.sh.froz a q).2.1 (List.mem_of_mem_drop (inex w))⟩
  refine ⟨fun a q => (zzP.mp q).elim (fun q => ?_) fun q => .inl (List.mem_of_mem_drop (inex q)), hf, fun j i a e1 e2 => ?_, ⟨⟨fun b o e nb q => (zzP.mp q).elim nb fun q => (nomatch e.symm.trans (new b (inex q))), fun b q => n.grow.fr b (g.fr.symm ▸ q)⟩, fun b q => (n.grow.frn b q).imp (fun y => g.fr ▸ y) id, fun e => low e⟩,
   List.nodup_append.mpr ⟨H.nodup, (n.sh.nodup.sublist (List.drop_sublist _ _)).sublist exs, fun a ha b hb e => ex1 (obj a ha) fun o w => by subst e; exact nomatch w.1.symm.trans (new _ (inex hb))⟩, fun a q => (zzP.mp q).elim (H.fresh a) fun q => n.sh.fresh a (List.mem_of_mem_drop (inex q)), fun a q => ⟨(n.sh.froz a q).1, (hf a q).2, (n.sh.froz a q).2.2⟩⟩
  ·by_cases h0 : a ∈ ρ0.a
   ·exact ex1 (zzM.mp h0) fun i ei => .inl (zzL (old i a ei))
   ·exact ex1 (obj a q) fun o w => .inr ⟨o, n.keep a o w.1 h0, w.2⟩
  ·have hi : i < ρ.a.length := H.len.symm ▸ slt i (zzL e1)
   have e3 := zzT hi
   have e4 := old j _ (at1 e1 e3)
   exact (low e3).trans (e4.symm.trans e2)
 have cells : ∀ ρ2 : Rho, (∀ a ∈ ρ2.a, a ∈ ρ1.a ∨ ∃ o, s1.heap.get? a = some o /\ aG4 o = true) -> (∀ a ∈ ρ1.f, a ∈ ρ2.f /\ a ∉ ρ2.a) -> (∀ (j i : Nat) (a : Addr), sel[j]? = some i -> ρ1.a[j]? = some a -> ρ2.a[i]? = some a) -> Grow ρ ρ2 s.heap -> ∀ m2 : Mem, sel.length <= m2.length -> (∀ k o, m2[k]? = some o -> m1[k]? = some o) -> ∀ (i : Nat) (a : Addr) (o : MO), ρ.a[i]? = some a -> (putB sel sel m2 m)[i]? = some o -> CellOk C s1.heap ρ2 a c2 o := fun ρ2 hid hf hs grow m2 hl hm i a o e1 e2 => by
  by_cases hi : i ∈ sel
  ·refine ex1 (zzM.mp hi) fun k ek => ex1 (cS9 (s₀ := sel) sel nds hl (H.lt e1) ek) fun o' w => ?_
   cases w.2.symm.trans e2
   have hk := hm k o' w.1
   exact (aV0 hid hf hs (n.sh.cell k a o' (old k a (at1 ek e1)) hk)).le hw.1.2
  ·have e3 : m[i]? = some o := (bF sel hi).symm.trans e2
   have n0 : a ∉ ρ0.a := fun q => ex1 (zzM.mp q) fun k ek => by
    have hk : k < sel.length := L0 ▸ (zzA.mp ek).1
    have e4 := zzT hk
    have hi' : sel[k] < ρ.a.length := H.len.symm ▸ slt _ (zzL e4)
    have e5 := zzT hi'
    have e6 := zzC ((at1 e4 e5).symm.trans ek)
    exact hi (aE H.nodup (e6 ▸ e5) e1 ▸ zzL e4)
   exact ex1 (obj a (zzL e1)) fun x w => CellOk.mono keep.d grow hw.1.1 ((n.keep a x w.1 n0).trans w.1.symm) (H.cell i a o e1 e3)
 refine hw.2.elim (fun y => ?_) fun y => ex2 y fun l m2 y => ?_
 ·obtain ⟨hid, hf, hs, grow, nd2, fresh2, froz2⟩ := facts [] (List.nil_sublist _) ⟨ρ.a, ρ1.f⟩ (by rw [List.append_nil])
  have sh : Sh C ⟨ρ.a, ρ1.f⟩ (putB sel sel m1 m) c2 s1.heap := ⟨by rw [aI7, H.len], nd2, fresh2, froz2, n.sh.keep0, fun i a o e1 e2 => cells ⟨ρ.a, ρ1.f⟩ hid hf hs grow m1 y.1 (fun _ _ q => q) i a o e1 e2⟩
  exact ex1 y.2.1 fun p hp => by
   subst hp
   exact k _ _ ⟨ρ.a, ρ1.f⟩ _ _ s1 y.2.2 ⟨sh, keep, grow, n.gens, n.drawn, n.os⟩ (RepP.unhide hid hf p v' rv)
 ·obtain ⟨rfl, y2, rfl, y4⟩ := y
  obtain ⟨hid, hf, hs, grow, nd2, fresh2, froz2⟩ := facts _ (List.Sublist.refl _) _ rfl
  have hm : (m2 ++ [MO.pl l])[sel.length]? = some (.pl l) := y2 ▸ zzO
  have hl : ρ1.a.length = sel.length + 1 := by rw [n.sh.len, zzB, y2]; rfl
  have hb : sel.length < ρ1.a.length := hl ▸ zzb _
  have eb := zzT hb
  have dr : ρ1.a.drop sel.length = [ρ1.a[sel.length]] := by rw [List.drop_eq_getElem_cons hb, List.drop_eq_nil_of_le (Nat.le_of_eq hl)]
  have e2a : ρ.a ++ ρ1.a.drop sel.length = ρ.a ++ [ρ1.a[sel.length]] := congrArg (ρ.a ++ ·) dr
  have top : (ρ.a ++ ρ1.a.drop sel.length)[m.length]? = some ρ1.a[sel.length] := by rw [e2a, <- H.len]; exact zzO
  have sh : Sh C ⟨ρ.a ++ ρ1.a.drop sel.length, ρ1.f⟩ (putB sel sel m2 m ++ [.pl l]) c2 s1.heap := ⟨by show (ρ.a ++ ρ1.a.drop sel.length).length = _; rw [e2a, zzB, zzB, aI7, H.len]; rfl, nd2, fresh2, froz2, n.sh.keep0, fun i a o e1 e2 => by
   by_cases hi : i < m.length
   ·have e1' : ρ.a[i]? = some a := by have e1 : (ρ.a ++ ρ1.a.drop sel.length)[i]? = some a := e1; rw [e2a] at e1; exact (zzH (H.len.symm ▸ hi)).symm.trans e1
    exact cells _ hid hf hs grow m2 (Nat.le_of_eq y2.symm) (fun k o q => (zzH (zzA.mp q).1).trans q) i a o e1' ((zzH (by rw [aI7]; exact hi)).symm.trans e2)
   ·have hi2 : i = m.length := by
     have := (zzA.mp e2).1
     rw [zzB, aI7] at this
     exact Nat.le_antisymm (Nat.le_of_lt_succ this) (Nat.le_of_not_lt hi)
    subst hi2
    cases (top.symm.trans e1)
    have e3 : (putB sel sel m2 m ++ [MO.pl l])[m.length]? = some (.pl l) := by
     have := zzO (l := putB sel sel m2 m) (a := MO.pl l)
     rw [aI7] at this; exact this
    cases e3.symm.trans e2
    exact (aV0 hid hf hs (o := .pl l) (n.sh.cell _ _ _ eb hm)).le hw.1.2⟩
  exact k _ _ ⟨ρ.a ++ ρ1.a.drop sel.length, ρ1.f⟩ _ _ s1 y4 ⟨sh, keep, grow, n.gens, n.drawn, n.os⟩ (ex1 rv fun a r => ⟨a, top.trans (eb.symm.trans r.1), r.2⟩)
end
end
set_option genInjectivity false
set_option genSizeOf false
section
open PySem PySem.W PyProof.Rows PyProof.V
open scoped Classical
inductive Tst where
 | ask | zero | one | non
inductive Sx where
 | say (ev : Int)
 | hold (r : Nat)
 | shown (lid : Nat) (kind ev : Int)
inductive Jp where
 | brk | cont
 | ret (ev : Int)
 | thr (k : Nat)
inductive T where
 | nil
 | cons (s r : T)
 | blk (l : T)
 | ex (x : Sx)
 | jump (j : Jp)
 | ask (y n : T)
 | whil (t : Tst) (b : T)
 | dow (t : Tst) (b : T)
 | for_ (e1 : Int) (t : Tst) (e2 e3 : Int) (b : T)
 | try_ (lid : Nat) (b h l : T)
 | usg (w lid : Nat) (b : T)
 | arr (lid : Nat) (wide : Bool) (src : Option Nat) (b : T)
 | pat (lid : Nat) (wide : Bool) (sort idx : Nat) (b : T)
noncomputable abbrev pi (i : Int) : PV := .int i
noncomputable abbrev pn (n : Nat) : PV := .int (n : Int)
noncomputable def aA3 (kind fid : Int) : PV := .tup [pi 5, pi kind, .tup [pi 12, pi fid]]
noncomputable def eLoc (kind : Int) (lid : Nat) : PV := .tup [pi 2, pi kind, pn lid]
noncomputable def eAsk : PV := aA3 1 1000
noncomputable def eAsg (kind : Int) (g v : PV) : PV := .tup [pi 22, pi kind, g, v]
noncomputable def aJ6 (kind v : Int) : PV := .tup [pi 1, pi kind, pi v]
noncomputable def aG9 (kind : Int) (o : PV) (owner mid virt : Int) : PV := .tup [pi 8, pi kind, o, .tup [pi owner, pi mid, .tup []], .tup [], pi virt]
noncomputable def aH9 : PV := .tup [pi 32, pi 7]
noncomputable def aF4 (wide : Bool) (x : PV) : PV := match wide with | true => .tup [pi 19, pi 9, x, pi 1, pi 0] | false => x
noncomputable def aH7 (e : PV) : PV := .tup [pi 1, e]
noncomputable def sAsg (kind : Int) (g v : PV) : PV := aH7 (eAsg kind g v)
noncomputable def aA1 (l : List PV) : PV := .tup [pi 3, .tup l, pi 0]
noncomputable def bI1 (r : Nat) : PV := aA3 21 (1080 + r)
noncomputable def eSrc : Option Nat -> PV
 | none => eLoc 21 1
 | some r => bI1 r
noncomputable def sX : Sx -> PV
 | .say ev => aH7 (aA3 7 ev)
 | .hold r => sAsg 21 (eLoc 21 1) (bI1 r)
 | .shown lid kind ev => sAsg kind (aA3 kind ev) (eLoc kind lid)
noncomputable def sJ : Jp -> PV
 | .brk => .tup [pi 10]
 | .cont => .tup [pi 11]
 | .ret ev => .tup [pi 12, aA3 7 ev]
 | .thr k => .tup [pi 13, aA3 12 (1070 + k)]
noncomputable def kW (wide : Bool) : Int := match wide with | true => 9 | false => 7
noncomputable def tst : Tst -> PV
 | .ask => eAsk
 | .zero => aJ6 1 0
 | .one => aJ6 1 1
 | .non => .none
noncomputable def isC (sort : Nat) : Bool := Nat.blt sort 3
noncomputable def two (b : Bool) (x y : Int) : Int := match b with | true => x | false => y
noncomputable def aA7 (sort : Nat) : Int := two (isC sort) 16 19
noncomputable def mRef (owner mid : Int) : PV := .tup [pi owner, pi mid, .tup []]
noncomputable def bN2 : Nat -> Int
 | 2 => 16
 | 3 => 19
 | _ => 18
noncomputable def dMid : Nat -> Int
 | 2 => 9
 | 3 => 10
 | _ => 8
noncomputable def hasD : Nat -> Bool
 | 0 => false
 | 1 => true
 | 2 => true
 | 3 => true
 | 4 => true
 | _ => false
noncomputable def aI8 (sort : Nat) : PV := match hasD sort with | true => mRef (bN2 sort) (dMid sort) | false => .tup []
noncomputable def kUse : Nat -> Int
 | 2 => 20
 | _ => 18
noncomputable def fUse : Nat -> Int
 | 1 => 1091
 | _ => 1090
noncomputable def mUse : Nat -> Int
 | 2 => 11
 | _ => 8
noncomputable def vUse : Nat -> Int
 | 2 => 0
 | _ => 1
noncomputable def bI4 (lid : Nat) (h : PV) : PV := match lid with
 | 0 => .tup []
 | _ => .tup [.tup [pi (-1), pn lid, .none, h]]
mutual
noncomputable def enc : T -> PV
 | .nil => .none
 | .cons _ _ => .none
 | .blk l => aA1 (encL l)
 | .ex x => sX x
 | .jump j => sJ j
 | .ask y n => .tup [pi 4, eAsk, enc y, enc n]
 | .whil t b => .tup [pi 5, tst t, enc b]
 | .dow t b => .tup [pi 6, enc b, tst t]
 | .for_ e1 t e2 e3 b => .tup [pi 7, .tup [sX (.say e1)], tst t, .tup [sX (.say e2), sX (.say e3)], enc b, pi 0]
 | .try_ lid b h l => .tup [pi 14, enc b, bI4 lid (enc h), enc l]
 | .usg w lid b => .tup [pi 15, pn lid, aA3 (kUse w) (fUse w), aG9 0 (eLoc (kUse w) lid) (kUse w) (mUse w) (vUse w), enc b]
 | .arr lid wide src b => .tup [pi 8, pn lid, eSrc src, enc b, .tup [pi 1, aF4 wide aH9], pi 0]
 | .pat lid wide sort idx b => .tup [pi 8, pn lid, aA3 17 (1100 + idx), enc b, .tup [pi 2, mRef 17 (two (isC sort) 2 3), mRef (aA7 sort) (two (isC sort) 4 6), mRef (aA7 sort) (two (isC sort) 5 7), aI8 sort, pi (aA7 sort), aF4 wide aH9], pi 0]
noncomputable def encL : T -> List PV
 | .cons s r => enc s :: encL r
 | _ => []
end
structure Spec where
 count : Nat
 null : Bool
 nullE : Bool
 disp : Bool
noncomputable def aC1 (s : Spec) : PV := .tup [pn s.count, .bool s.null, .bool s.nullE, .bool s.disp]
structure En where
 at_ : Nat
 out : List PV
 vars : Nat -> Option PV
 live : List (Nat × Nat)
 gas : Nat
inductive Rs where
 | next | brk | cont
 | ret (v : Int)
 | thr (v : Int)
noncomputable abbrev KX := Rs -> En -> Prop
noncomputable def b2i (b : Bool) : Int := match b with | true => 1 | false => 0
noncomputable def En.emit (e : En) (a b : PV) : En := { e with out := e.out ++ [.tup [a, b]] }
noncomputable def En.set (e : En) (lid : Nat) (v : PV) : En := { e with vars := fun i => match Nat.beq i lid with | true => some v | false => e.vars i }
noncomputable def ans (tp : List Bool) (e : En) : Bool := tp.getD e.at_ false
noncomputable def En.asked (e : En) (tp : List Bool) : En := { e with at_ := e.at_ + 1, out := e.out ++ [.tup [pi 1000, pi (b2i (ans tp e))]] }
noncomputable def En.said (e : En) (ev : Int) : En := e.emit (pi ev) (pi ev)
noncomputable def En.ev (e : En) (s : Str) (n : Nat) : En := e.emit (.str s) (pn n)
noncomputable def rowL : Nat -> Option (List Int)
 | 0 => some [1, 2, 3]
 | 1 => some [4]
 | 2 => some []
 | _ => none
noncomputable def arrV : Option (List Int) -> PV
 | none => .none
 | some l => .tup (l.map .int)
noncomputable def orZ : PV -> PV
 | .none => pi 0
 | v => v
noncomputable def En.row (e : En) (r : Nat) : En := e.emit (pi (1080 + r)) (orZ (arrV (rowL r)))
noncomputable def pay (n : Nat) (e : En) (k : En -> Prop) : Prop := n <= e.gas /\ k { e with gas := e.gas - n }
noncomputable def tstX (tp : List Bool) (t : Tst) (e : En) (go stop : En -> Prop) : Prop := match t with
 | .ask => match ans tp e with
  | true => go (e.asked tp)
  | false => stop (e.asked tp)
 | .zero => stop e
 | .one => go e
 | .non => go e
noncomputable def exX (K : KX) (go : En -> Prop) : KX := fun x e => match x with
 | .next => go e
 | .cont => go e
 | .brk => K .next e
 | .ret v => K (.ret v) e
 | .thr v => K (.thr v) e
noncomputable def lpX (b : KX -> En -> Prop) (p : En -> (En -> Prop) -> Prop) (K : KX) : Nat -> En -> Prop
 | 0, _ => False
 | k + 1, e => b (exX K fun e => p e (lpX b p K k)) e
noncomputable def arX (b : KX -> En -> Prop) (lid : Nat) (K : KX) : List Int -> En -> Prop
 | [], e => K .next e
 | i :: l, e => pay 26 e fun e => b (exX K (arX b lid K l)) (e.set lid (pi i))
noncomputable def rdX (b : KX -> En -> Prop) (lid each idx : Nat) (K : KX) : Nat -> Nat -> En -> Prop
 | 0, k, e => e.live[each]? = some (idx, k) /\ K .next { e.ev (V "step") each with live := e.live.set each (idx, k + 1) }
 | n + 1, k, e => e.live[each]? = some (idx, k) /\ pay 19 e fun e => b (exX K (rdX b lid each idx K n (k + 1)))
   ((({ e.ev (V "step") each with live := e.live.set each (idx, k + 1) }).ev (V "now") each).set lid (pn (10 * (k + 1) + each)))
noncomputable def finR (x : Rs) : Rs -> Rs
 | .next => x
 | y => y
noncomputable def thrX (lid : Nat) (x : Rs) (h : Int -> Prop) (fin : Prop) : Prop := match lid with
 | 0 => fin
 | _ => match x with
  | .thr v => h v
  | _ => fin
noncomputable def useV : Nat -> PV
 | 1 => .none
 | _ => pi 1090
noncomputable def okSp (sort : Nat) (s : Spec) : Bool := (!s.nullE || isC sort) && (s.disp || Nat.beq sort 1) && Nat.blt s.count 1000
noncomputable def X (tp : List Bool) (sp : List Spec) : T -> KX -> En -> Prop
 | .nil, K, e => K .next e
 | .cons s r, K, e => X tp sp s (fun x e => match x with
   | .next => X tp sp r K e
   | x => K x e) e
 | .blk l, K, e => X tp sp l K e
 | .ex (.say ev), K, e => pay 5 e fun e => K .next (e.said ev)
 | .ex (.hold r), K, e => pay 6 e fun e => K .next ((e.row r).set 1 (arrV (rowL r)))
 | .ex (.shown lid kind ev), K, e => pay 5 e fun e => som (e.vars lid) fun v => K .next (e.emit (pi (-ev)) v)
 | .jump .brk, K, e => pay 5 e fun e => K .brk e
 | .jump .cont, K, e => pay 5 e fun e => K .cont e
 | .jump (.ret ev), K, e => pay 5 e fun e => K (.ret ev) (e.said ev)
 | .jump (.thr k), K, e => pay 5 e fun e => K (.thr (1070 + k)) (e.said (1070 + k))
 | .ask y n, K, e => pay 13 e fun e => match ans tp e with
   | true => X tp sp y K (e.asked tp)
   | false => X tp sp n K (e.asked tp)
 | .whil t b, K, e => pay 21 e fun e => ∃ k, tstX tp t e (lpX (X tp sp b) (fun e go => pay 13 e fun e => tstX tp t e go (K .next)) K k) (K .next)
 | .dow t b, K, e => pay 8 e fun e => ∃ k, lpX (X tp sp b) (fun e go => pay 13 e fun e => tstX tp t e go (K .next)) K k e
 | .for_ e1 t e2 e3 b, K, e => pay 26 e fun e => ∃ k, tstX tp t (e.said e1) (lpX (X tp sp b) (fun e go => pay 27 e fun e => tstX tp t ((e.said e2).said e3) go (K .next)) K k) (K .next)
 | .try_ lid b h l, K, e => pay 32 e fun e => X tp sp b (fun x e => thrX lid x (fun v => X tp sp h (fun x e => X tp sp l (fun y => K (finR x y)) e) (e.set lid (pi v))) (X tp sp l (fun y => K (finR x y)) e)) e
 | .usg w lid b, K, e => pay 32 e fun e => X tp sp b (fun x e => e.vars lid = some (useV w) /\ K x (match useV w with | .none => e | _ => e.ev (V "over") 1090)) ((e.emit (pi (fUse w)) (orZ (useV w))).set lid (useV w))
 | .arr lid wide src b, K, e => pay 27 e fun e => match src with
   | none => ∃ a, e.vars 1 = some (arrV a) /\ (∀ l, a = some l -> l.length <= 3) /\ match a with
    | none => K (.thr 1) e
    | some l => arX (X tp sp b) lid K l e
   | some r => match rowL r with
    | none => K (.thr 1) (e.row r)
    | some l => arX (X tp sp b) lid K l (e.row r)
 | .pat lid wide sort idx b, K, e => pay 64 e fun e => som sp[idx]? fun s => okSp sort s = true /\ match s.null with
   | true => K (.thr 1) (e.emit (pi (1100 + idx)) (pi 0))
   | false => match s.nullE with
    | true => K (.thr 1) ((e.emit (pi (1100 + idx)) (pn idx)).ev (V "get") idx)
    | false => rdX (X tp sp b) lid e.live.length idx (fun x e' => (∃ cnt, e'.live[e.live.length]? = some (idx, cnt)) /\ K x (match hasD sort && s.disp with | true => e'.ev (V "over") e.live.length | false => e')) s.count 0
      {(e.emit (pi (1100 + idx)) (pn idx)).ev (V "get") idx with live := e.live ++ [(idx, 0)] }
noncomputable def cLab (l : Nat) : PV := .tup [pi 20, pn l]
noncomputable def cGo (l : Nat) : PV := .tup [pi 21, pn l]
noncomputable def cIf (t : PV) (w : Int) (l : Nat) : PV := .tup [pi 22, t, pi w, pn l]
noncomputable def cTry (b : List PV) (rows last : PV) : PV := .tup [pi 14, aA1 b, rows, last]
noncomputable def dN (a i : PV) : PV := .tup [pi 6, pi 7, a, i]
noncomputable def eLen (a : PV) : PV := .tup [pi 7, pi 7, a]
noncomputable def eBin (k : Int) (op : Str) (a b : PV) : PV := .tup [pi 14, pi k, .str op, a, b, pi 0]
noncomputable def eH2 (k : Int) : PV := .tup [pi 1, pi k, .none]
noncomputable def eAs (k : Int) (x : PV) : PV := .tup [pi 21, pi k, x]
noncomputable def cArr (v : Nat) (src : Option Nat) : PV := sAsg 21 (eLoc 21 v) (eSrc src)
noncomputable def cIdx (v : Nat) : PV := sAsg 7 (eLoc 7 v) (aJ6 7 0)
noncomputable def cInc (v : Nat) : PV := sAsg 7 (eLoc 7 v) (eBin 7 (V "+") (eLoc 7 v) (aJ6 7 1))
noncomputable def aL4 (lid : Nat) (w : Bool) (a i : Nat) : PV := sAsg (kW w) (eLoc (kW w) lid) (aF4 w (dN (eLoc 21 a) (eLoc 7 i)))
noncomputable def aQ1 (i a : Nat) : PV := eBin 1 (V "<") (eLoc 7 i) (eLen (eLoc 21 a))
noncomputable def eGet (sort idx : Nat) : PV := aG9 (aA7 sort) (aA3 17 (1100 + idx)) 17 (two (isC sort) 2 3) 1
noncomputable def cGet (v sort idx : Nat) : PV := sAsg (aA7 sort) (eLoc (aA7 sort) v) (eGet sort idx)
noncomputable def bU (sort : Nat) : Int := two (isC sort) 1 0
noncomputable def eNow (v sort : Nat) : PV := aG9 7 (eLoc (aA7 sort) v) (aA7 sort) (two (isC sort) 5 7) (bU sort)
noncomputable def aI5 (v sort : Nat) : PV := aG9 1 (eLoc (aA7 sort) v) (aA7 sort) (two (isC sort) 4 6) (bU sort)
noncomputable def cNow (lid : Nat) (w : Bool) (v sort : Nat) : PV := sAsg (kW w) (eLoc (kW w) lid) (aF4 w (eNow v sort))
noncomputable def eNN (k : Int) (v : Nat) : PV := eBin 1 (V "!=") (eLoc k v) (eH2 k)
noncomputable def aH2 (k : Int) (v : Nat) (owner mid virt : Int) : PV := aH7 (aG9 0 (eLoc k v) owner mid virt)
noncomputable def cUse (w lid : Nat) : PV := sAsg (kUse w) (eLoc (kUse w) lid) (aA3 (kUse w) (fUse w))
noncomputable def cTst (t : Tst) (l : Nat) : List PV := match t with
 | .ask => [cIf eAsk 1 l]
 | .zero => []
 | .one => [cGo l]
 | .non => [cGo l]
noncomputable def lowD (v lc vc : Nat) : Nat -> List PV × Nat × Nat
 | 1 => ([sAsg 18 (eLoc 18 (vc + 1)) (eAs 18 (eLoc 16 v)), cIf (eNN 18 (vc + 1)) 0 (lc + 1), aH2 18 (vc + 1) 18 8 1, cLab (lc + 1)], lc + 1, vc + 1)
 | 2 => ([cIf (eNN 16 v) 0 (lc + 1), aH2 16 v 16 9 1, cLab (lc + 1)], lc + 1, vc)
 | 3 => ([aH2 19 v 19 10 0], lc, vc)
 | _ => ([aH2 19 v 18 8 2], lc, vc)
noncomputable def lowU (lid l : Nat) : Nat -> List PV
 | 2 => [aH2 20 lid 20 11 0, cLab l]
 | _ => [cIf (eNN 18 lid) 0 l, aH2 18 lid 18 8 1, cLab l]
noncomputable def aA6 (l : List PV) : Bool := match l.getLast? with
 | some (.tup (.int c :: _)) => !(decide (c = 21) || decide (c = 12) || decide (c = 13) || decide (c = 17))
 | _ => true
noncomputable def aF7 : T -> Bool
 | .nil => true
 | _ => false
noncomputable def goIf (b : Bool) (l : Nat) : List PV := match b with | true => [cGo l] | false => []
noncomputable def askL (b : Bool) (x z : List PV × Nat × Nat) (lc : Nat) : List PV × Nat × Nat := match b with
 | true => (cIf eAsk 0 (lc + 1) :: (x.1 ++ [cLab (lc + 1)]), x.2)
 | false => (cIf eAsk 0 (lc + 1) :: ((x.1 ++ (goIf (aA6 (cIf eAsk 0 (lc + 1) :: x.1)) (x.2.1 + 1) ++ [cLab (lc + 1)])) ++ (z.1 ++ [cLab (x.2.1 + 1)])), z.2)
noncomputable def lowR (lid : Nat) (w : Bool) (sort v lc : Nat) (b : List PV) : List PV := [cGo (lc + 2), cLab (lc + 1), cNow lid w v sort] ++ (b ++ [cLab (lc + 2), cIf (aI5 v sort) 1 (lc + 1), cLab (lc + 3)])
noncomputable def patL (b : Bool) (g : PV) (c : List PV) (x z : List PV × Nat × Nat) : List PV × Nat × Nat := match b with
 | true => ([g, cTry c (.tup []) (aA1 z.1)], z.2)
 | false => (g :: c, x.2)
noncomputable def cF5 (b : Bool) (l : List PV) : PV := match b with | true => .none | false => aA1 l
noncomputable def low : T -> Nat -> Nat -> Nat -> Nat -> List PV × Nat × Nat
 | .nil, tb, ta, lc, vc => ([], lc, vc)
 | .cons s r, tb, ta, lc, vc =>
  let x := low s tb ta lc vc
  let y := low r tb ta x.2.1 x.2.2
  (x.1 ++ y.1, y.2)
 | .blk l, tb, ta, lc, vc => low l tb ta lc vc
 | .ex x, tb, ta, lc, vc => ([sX x], lc, vc)
 | .jump .brk, tb, ta, lc, vc => ([cGo tb], lc, vc)
 | .jump .cont, tb, ta, lc, vc => ([cGo ta], lc, vc)
 | .jump j, tb, ta, lc, vc => ([sJ j], lc, vc)
 | .ask y n, tb, ta, lc, vc =>
  let x := low y tb ta (lc + 1) vc
  askL (aF7 n) x (low n tb ta (x.2.1 + 1) x.2.2) lc
 | .whil t b, tb, ta, lc, vc =>
  let x := low b (lc + 3) (lc + 2) (lc + 3) vc
  ([cGo (lc + 2), cLab (lc + 1)] ++ (x.1 ++ (cLab (lc + 2) :: (cTst t (lc + 1) ++ [cLab (lc + 3)]))), x.2)
 | .dow t b, tb, ta, lc, vc =>
  let x := low b (lc + 3) (lc + 2) (lc + 3) vc
  (cLab (lc + 1) :: (x.1 ++ (cLab (lc + 2) :: (cTst t (lc + 1) ++ [cLab (lc + 3)]))), x.2)
 | .for_ e1 t e2 e3 b, tb, ta, lc, vc =>
  let x := low b (lc + 4) (lc + 2) (lc + 4) vc
  ([sX (.say e1), cGo (lc + 3), cLab (lc + 1)] ++ (x.1 ++ ([cLab (lc + 2), sX (.say e2), sX (.say e3), cLab (lc + 3)] ++ (cTst t (lc + 1) ++ [cLab (lc + 4)]))), x.2)
 | .try_ lid b h l, tb, ta, lc, vc =>
  let x := low b tb ta lc vc
  let y := low h tb ta x.2.1 x.2.2
  let z := low l tb ta y.2.1 y.2.2
  ([cTry x.1 (bI4 lid (aA1 y.1)) (cF5 (aF7 l) z.1)], z.2)
 | .usg w lid b, tb, ta, lc, vc =>
  let x := low b tb ta lc vc
  ([cUse w lid, cTry x.1 (.tup []) (aA1 (lowU lid (x.2.1 + 1) w))], x.2.1 + 1, x.2.2)
 | .arr lid w src b, tb, ta, lc, vc =>
  let x := low b (lc + 4) (lc + 2) (lc + 4) (vc + 2)
  ([cArr (vc + 1) src, cIdx (vc + 2), cGo (lc + 3), cLab (lc + 1), aL4 lid w (vc + 1) (vc + 2)] ++ (x.1 ++
   [cLab (lc + 2), cInc (vc + 2), cLab (lc + 3), cIf (aQ1 (vc + 2) (vc + 1)) 1 (lc + 1), cLab (lc + 4)]), x.2)
 | .pat lid w sort idx b, tb, ta, lc, vc =>
  let x := low b (lc + 3) (lc + 2) (lc + 3) (vc + 1)
  patL (hasD sort) (cGet (vc + 1) sort idx) (lowR lid w sort (vc + 1) lc x.1) x (lowD (vc + 1) x.2.1 x.2.2 sort)
section
noncomputable def HX : How where
 stop x f := x == V "" && (f == V "_law_exec" || f == V "_law_flow")
 gc _ := false
 fz _ := false
structure FD where
 at_ : Nat
 out : List PV
 vars : List (PV × MV)
 live : MO
 specs : List PV
 tape : List PV
 thr : Int
 turns : Int
 extra : List PV
noncomputable def FW (w : FD) (tl : Mem) : Mem := .dict [(.str (V "specs"), .obj 4), (.str (V "tape"), .obj 5), (.str (V "at"), i_ w.at_), (.str (V "out"), .obj 1), (.str (V "vars"), .obj 2), (.str (V "live"), .obj 3), (.str (V "thr"), i_ w.thr), (.str (V "turns"), i_ w.turns), (.str (V "kinds"), .p (.tup [pi 16, pi 17, pi 18, pi 19])), (.str (V "value"), i_ 20)] ::
 .pl w.out :: .dict w.vars :: w.live :: .pl w.specs :: .pl w.tape :: .pl w.extra :: tl
noncomputable abbrev KD := PV -> FD -> Nat -> Prop
noncomputable abbrev onK (K : Kt MV) (tl : Mem) : KD := fun v w c => K (.p v) (FW w tl) c
noncomputable abbrev FD.add (w : FD) (x : PV) : FD := { w with out := w.out ++ [x] }
noncomputable abbrev FD.say (w : FD) (a b : PV) : FD := w.add (.tup [a, b])
noncomputable def outF (fid : Int) (v : PV) (w : FD) (c : Nat) (k : KD) : Prop := br (isNone (.p v)) (k v (w.say (pi fid) (pi 0)) (c + 1)) (k v (w.say (pi fid) v) (c + 1))
noncomputable def truB (v : PV) (k : Bool -> Prop) : Prop := match v with
 | .none => k false
 | .bool b => k b
 | .int i => k (!decide (i = 0))
 | .tup l => k (!l.isEmpty)
 | _ => False
noncomputable def rdF (fid : Int) (w : FD) (c : Nat) (k : KD) : Prop :=
 br (decide (fid = 1000))
  (br (decide ((w.at_ : Int) < w.tape.length)) (onN (w.at_ : Int) fun n => som w.tape[n]? fun v => outF fid v { w with at_ := w.at_ + 1 } (c + 1) k) (outF fid (pi 0) { w with at_ := w.at_ + 1 } (c + 1) k))
 (br (decide (1100 <= fid)) (onN (fid - 1100) fun n => som w.specs[n]? fun v => onT v fun l => som l[1]? fun b => truB b fun t => br t (outF fid .none w c k) (outF fid (pi (fid - 1100)) w c k))
 (br (decide (1090 <= fid)) (br (decide (fid = 1090)) (outF fid (pi fid) w c k) (outF fid .none w c k))
 (br (decide (1080 <= fid)) (onN (fid - 1080) fun n => som [PV.tup [pi 1, pi 2, pi 3], .tup [pi 4], .tup [], .none][n]? fun v => outF fid v w c k)
 (outF fid (pi fid) w c k))))
variable (P : PI) (G : Orc) (K : Kt MV) (c : Nat)
@[irreducible] noncomputable def run (P : PI) (H : How) (G : Orc) (n : Nat) (f : Str) (args : List MV) : PT MV := fun K m c => som ((ext P).fn (V "") f) fun fi => cD8 (ext P) H.fz (H.gc f) (inl (ext P) H G n) fi args K m c
end
section
variable (P : PI) (G : Orc) (K : Kt MV) (c : Nat)
noncomputable def HL : How where
 stop c f := c == V "" && (f == V "_law_exec" || f == V "_law_mean" || f == V "_law_call" || f == V "_law_over_array" || f == V "_law_over_pattern" || f == V "_law_rounds")
 gc _ := false
 fz _ := false
noncomputable def stA (i k : Nat) : Stmt := atS (aL1 (topS i)) k
noncomputable def inS (s : Stmt) (k : Nat) : Stmt := atS (aL1 s) k
noncomputable def scA (i : Nat) : Scope := aO4 (topS i)
noncomputable def blkK (K : Kt MV) : Kt (Flw × Loc) := fun x m c => match x.1 with
 | .next => K n_ m c
 | .brk => False
 | .cont => False
 | .ret v => K v m c
noncomputable abbrev xEx : Str := V "_law_exec"
noncomputable abbrev exK (b : PV) (K : Kt MV) (m : Mem) (c : Nat) : Prop := G (V "") xEx [.obj 0, .p b] K m c
noncomputable def env0 (s : PV) (code : Int) : Loc := [(V "env", .obj 0), (V "s", .p s), (V "code", i_ code)]
noncomputable def blkF : MV -> Loc -> PT (Flw × Loc) := forB (ext P) HL.fz (inl (ext P) HL G 0) (inS (stA 230 2) 0) (scA 230)
theorem cW9 (l : List PV) (m : Mem) : run P HL G 0 xEx [.obj 0, .p (aA1 l)] K m c = forL (blkF P G) (blkK K) (l.map .p) (env0 (aA1 l) 3) m c := by kernel_rfl
noncomputable def locE (K : Kt (Flw × Loc)) (l : Loc) (v : PV) : Kt MV := fun r m c => br (!isNone r) (K (.ret r, l ++ [(V "one", .p v), (V "end", r)]) m c) (K (.next, l ++ [(V "one", .p v), (V "end", r)]) m c)
theorem dO4 (s v : PV) (K : Kt (Flw × Loc)) (m : Mem) : blkF P G (.p v) (env0 s 3) K m c = exK G v (locE K (env0 s 3) v) m c := by kernel_rfl
theorem dO1 (s v : PV) (a b : MV) (K : Kt (Flw × Loc)) (m : Mem) : blkF P G (.p v) (env0 s 3 ++ [(V "one", a), (V "end", b)]) K m c = exK G v (locE K (env0 s 3) v) m c := by kernel_rfl
noncomputable abbrev xMe : Str := V "_law_mean"
noncomputable abbrev xCa : Str := V "_law_call"
noncomputable abbrev meK (e : PV) (K : Kt MV) (m : Mem) (c : Nat) : Prop := G (V "") xMe [.obj 0, .p e] K m c
noncomputable def aM0 (n : Nat) (K : Kt (Flw × Loc)) : Loc -> Mem -> Nat -> Prop := aL9 (fun loc => evT (ext P) HL.fz (inl (ext P) HL G 0) (exS (stA 230 13)) (scA 230) loc (evE (ext P) HL.fz (inl (ext P) HL G 0) (exS (stA 230 13)) (scA 230) loc)) (evSs (ext P) HL.fz (inl (ext P) HL G 0) (aL1 (stA 230 13)) (scA 230)) K n
noncomputable def locW (s b : PV) (code : Int) (turned : Bool) (r : Loc) : Loc := env0 s code ++ ((V "body", .p b) :: (V "turned", b_ turned) :: r)
noncomputable def locF (s b o : PV) (r : Loc) : Loc := env0 s 7 ++ ((V "body", .p b) :: (V "one", .p o) :: (V "turned", b_ false) :: r)
noncomputable def aJ7 (K : Kt MV) (go : Mem -> Nat -> Prop) : Kt MV := fun r m c => br (!isNone r) (getI r (i_ 0) (fun a m c => aG1 (ext P) .NotEq a (i_ 11) (fun x m c => truK x (fun b m c => br b (getI r (i_ 0) (fun a m c => cmpE a (i_ 10) (fun x m c => truK x (fun b m c => br b (K n_ m c) (K r m c)) m c) m c) m c) (go m c)) m c) m c) m c) (go m c)
noncomputable def askK (t : PV) (K : Kt MV) (go : Mem -> Nat -> Prop) (m : Mem) (c : Nat) : Prop := br (!isNone (.p t)) (G (V "") (V "_law_mean") [.obj 0, .p t] (fun v m c => cmpE v (i_ 0) (fun x m c => truK x (fun b m c => br b (K n_ m c) (go m c)) m c) m c) m c) (go m c)
noncomputable def cA7 (t : PV) (r : MV) : Loc := [(V "test", .p t), (V "end", r)]
noncomputable abbrev sW (t b : PV) : PV := .tup [pi 5, t, b]
noncomputable abbrev sD (t b : PV) : PV := .tup [pi 6, b, t]
noncomputable abbrev sF (t b e1 e2 e3 : PV) : PV := .tup [pi 7, .tup [e1], t, .tup [e2, e3], b, pi 0]
noncomputable def cT1 (t b : PV) (n : Nat) (m : Mem) (c : Nat) : Prop := askK G t K (exK G b fun r => aJ7 P K (aM0 P G n (blkK K) (locW (sW t b) b 5 false (cA7 t r))) r) m c
noncomputable def cR1 (t b e1 e2 e3 : PV) (n : Nat) (m : Mem) (c : Nat) : Prop := askK G t K (exK G b fun r => aJ7 P K (exK G e2 fun _ => exK G e3 fun _ => aM0 P G n (blkK K) (locF (sF t b e1 e2 e3) b e3 (cA7 t r))) r) m c
noncomputable def cN2 (t b : PV) (n : Nat) (m : Mem) (c : Nat) : Prop := exK G b (fun r => aJ7 P K (fun m c => G (V "") (V "_law_mean") [.obj 0, .p t] (fun v m c => cmpE v (i_ 0) (fun x m c => truK x (fun z m c => br z (K n_ m c) (aM0 P G n (blkK K) (locW (sD t b) b 6 true [(V "end", r)]) m c)) m c) m c) m c) r) m c
theorem bX5 (e : PV) (m : Mem) : run P HL G 0 xEx [.obj 0, .p (aH7 e)] K m c = meK G e (fun _ => K n_) m c := by kernel_rfl
theorem dY7 (m : Mem) : run P HL G 0 xEx [.obj 0, .p (sJ .brk)] K m c = K (.p (.tup [pi 10, pi 0])) m c := by kernel_rfl
theorem dM9 (m : Mem) : run P HL G 0 xEx [.obj 0, .p (sJ .cont)] K m c = K (.p (.tup [pi 11, pi 0])) m c := by kernel_rfl
noncomputable def tagK (s : Str) (K : Kt MV) : Kt MV := fun v m c => tupV [.p (.str s), v] K m c
theorem dY0 (e : PV) (m : Mem) : run P HL G 0 xEx [.obj 0, .p (.tup [pi 12, e])] K m c = meK G e (tagK (V "ret") K) m c := by kernel_rfl
theorem eF7 (e : PV) (m : Mem) : run P HL G 0 xEx [.obj 0, .p (.tup [pi 13, e])] K m c = meK G e (tagK (V "thr") K) m c := by kernel_rfl
theorem eF1 (e y n : PV) (m : Mem) : run P HL G 0 xEx [.obj 0, .p (.tup [pi 4, e, y, n])] K m c = meK G e (fun v m c => cmpE v (i_ 1) (fun x m c => truK x (fun b m c => br b (exK G y K m c) (br (isNone (.p n)) (K n_ m c) (exK G n K m c))) m c) m c) m c := by kernel_rfl
theorem dQ0 (t b : PV) (m : Mem) : run P HL G 0 xEx [.obj 0, .p (sW t b)] K m c = ∃ n, aM0 P G n (blkK K) (locW (sW t b) b 5 false []) m c := by kernel_rfl
theorem cT (t b : PV) (n : Nat) (m : Mem) : aM0 P G (n + 1) (blkK K) (locW (sW t b) b 5 false []) m c = cT1 P G K t b n m c := by kernel_rfl
theorem cS5 (t b : PV) (r : MV) (n : Nat) (m : Mem) : aM0 P G (n + 1) (blkK K) (locW (sW t b) b 5 false (cA7 t r)) m c = cT1 P G K t b n m c := by kernel_rfl
theorem eC2 (t b : PV) (m : Mem) : run P HL G 0 xEx [.obj 0, .p (sD t b)] K m c = ∃ n, aM0 P G n (blkK K) (locW (sD t b) b 6 true []) m c := by kernel_rfl
theorem dC (t b : PV) (n : Nat) (m : Mem) : aM0 P G (n + 1) (blkK K) (locW (sD t b) b 6 true []) m c = cN2 P G K t b n m c := by kernel_rfl
theorem dF5 (t b : PV) (r : MV) (n : Nat) (m : Mem) : aM0 P G (n + 1) (blkK K) (locW (sD t b) b 6 true [(V "end", r)]) m c = cN2 P G K t b n m c := by kernel_rfl
theorem eI1 (t b e1 e2 e3 : PV) (m : Mem) : run P HL G 0 xEx [.obj 0, .p (sF t b e1 e2 e3)] K m c = exK G e1 (fun _ m c => ∃ n, aM0 P G n (blkK K) (locF (sF t b e1 e2 e3) b e1 []) m c) m c := by kernel_rfl
theorem dD1 (t b e1 e2 e3 : PV) (n : Nat) (m : Mem) : aM0 P G (n + 1) (blkK K) (locF (sF t b e1 e2 e3) b e1 []) m c = cR1 P G K t b e1 e2 e3 n m c := by kernel_rfl
theorem dP3 (t b e1 e2 e3 : PV) (r : MV) (n : Nat) (m : Mem) : aM0 P G (n + 1) (blkK K) (locF (sF t b e1 e2 e3) b e3 (cA7 t r)) m c = cR1 P G K t b e1 e2 e3 n m c := by kernel_rfl
noncomputable abbrev caK (mid : Int) (v : MV) (K : Kt MV) (m : Mem) (c : Nat) : Prop := G (V "") xCa [.obj 0, i_ mid, v] K m c
noncomputable def putK (lid : Int) (v : MV) (K : Mem -> Nat -> Prop) (m : Mem) (c : Nat) : Prop := getI (.obj 0) (.p (.str (V "vars"))) (fun d => setI d (i_ lid) v (fun _ => K)) m c
noncomputable def endT (l : PV) (K : Kt MV) : Kt MV := fun r m c => br (!isNone (.p l)) (exK G l (fun o m c => br (isNone o) (K r m c) (K o m c)) m c) (K r m c)
noncomputable def thrK (r : MV) (A B : Mem -> Nat -> Prop) (m : Mem) (c : Nat) : Prop := br (!isNone r) (getI r (i_ 0) (fun a m c => cmpE a (.p (.str (V "thr"))) (fun x m c => truK x (fun b m c => br b (A m c) (B m c)) m c) m c) m c) (B m c)
theorem dT9 (b l : PV) (m : Mem) : run P HL G 0 xEx [.obj 0, .p (.tup [pi 14, b, .tup [], l])] K m c = exK G b (fun r => thrK r (endT G l K r) (endT G l K r)) m c := by kernel_rfl
theorem dL6 (b h l : PV) (lid : Int) (m : Mem) : run P HL G 0 xEx [.obj 0, .p (.tup [pi 14, b, .tup [.tup [pi (-1), pi lid, .none, h]], l])] K m c =
 exK G b (fun r => thrK r (fun m c => getI r (i_ 1) (fun v => putK lid v (exK G h (endT G l K))) m c) (endT G l K r)) m c := by kernel_rfl
theorem cV6 (e b o : PV) (lid k mid own virt : Int) (m : Mem) : run P HL G 0 xEx [.obj 0, .p (.tup [pi 15, pi lid, e, aG9 k o own mid virt, b])] K m c =
 meK G e (fun v => putK lid v (exK G b (fun r m c => br (!isNone v) (caK G mid v (fun _ => K r) m c) (K r m c)))) m c := by kernel_rfl
noncomputable abbrev sA (lid : Int) (e b t : PV) : PV := .tup [pi 8, pi lid, e, b, .tup [pi 1, t], pi 0]
theorem eC0 (e b t : PV) (lid : Int) (m : Mem) : run P HL G 0 xEx [.obj 0, .p (sA lid e b t)] K m c = G (V "") (V "_law_over_array") [.obj 0, .p (sA lid e b t)] K m c := by kernel_rfl
noncomputable def arF : MV -> Loc -> PT (Flw × Loc) := forB (ext P) HL.fz (inl (ext P) HL G 0) (stA 231 2) (scA 231)
noncomputable def locA (s : PV) (v : MV) (r : Loc) : Loc := (V "env", .obj 0) :: (V "s", .p s) :: (V "items", v) :: r
noncomputable def thr1 : PV := .tup [.str (V "thr"), pi 1]
theorem dO (e b t : PV) (lid : Int) (m : Mem) : run P HL G 0 (V "_law_over_array") [.obj 0, .p (sA lid e b t)] K m c =
 meK G e (fun v m c => br (isNone v) (K (.p thr1) m c) (forV (arF P G) v (locA (sA lid e b t) v []) (blkK K) m c)) m c := by kernel_rfl
noncomputable def aW8 (K : Kt (Flw × Loc)) (l : MV -> Loc) : Kt MV := fun r m c => br (!isNone r) (getI r (i_ 0) (fun a m c => aG1 (ext P) .NotEq a (i_ 11) (fun x m c => truK x (fun b m c => br b (getI r (i_ 0) (fun a m c => cmpE a (i_ 10) (fun x m c => truK x (fun b m c => br b (K (.ret n_, l r) m c) (K (.ret r, l r) m c)) m c) m c) m c) (K (.next, l r) m c)) m c) m c) m c) (K (.next, l r) m c)
theorem cS1 (e b t : PV) (lid : Int) (v x : MV) (K : Kt (Flw × Loc)) (m : Mem) : arF P G x (locA (sA lid e b t) v []) K m c = putK lid x (exK G b (aW8 P K fun r => locA (sA lid e b t) v [(V "item", x), (V "end", r)])) m c := by kernel_rfl
theorem cS8 (e b t : PV) (lid : Int) (v x y z : MV) (K : Kt (Flw × Loc)) (m : Mem) : arF P G x (locA (sA lid e b t) v [(V "item", y), (V "end", z)]) K m c = putK lid x (exK G b (aW8 P K fun r => locA (sA lid e b t) v [(V "item", x), (V "end", r)])) m c := by kernel_rfl
end
section
variable (P : PI) (G : Orc) (K : Kt MV) (c : Nat)
noncomputable abbrev sP (lid : Int) (e b t : PV) (g st nw : Int) (d : PV) (k : Int) : PV := .tup [pi 8, pi lid, e, b, .tup [pi 2, mRef 17 g, mRef k st, mRef k nw, d, pi k, t], pi 0]
theorem dW (lid : Int) (e b t : PV) (g st nw : Int) (d : PV) (k : Int) (m : Mem) : run P HL G 0 xEx [.obj 0, .p (sP lid e b t g st nw d k)] K m c = G (V "") (V "_law_over_pattern") [.obj 0, .p (sP lid e b t g st nw d k)] K m c := by kernel_rfl
noncomputable def disK (v each end_ : MV) (mid : Int) (K : Kt MV) (m : Mem) (c : Nat) : Prop :=
 getI (.obj 0) (.p (.str (V "specs"))) (fun a => getI a v (fun a => getI a (i_ 3) (fun x m c => truK x (fun b m c => br b (caK G mid each (fun _ => K end_) m c) (K end_ m c)) m c))) m c
theorem dR2 (lid : Int) (e b t : PV) (g st nw : Int) (k : Int) (m : Mem) : run P HL G 0 (V "_law_over_pattern") [.obj 0, .p (sP lid e b t g st nw (.tup []) k)] K m c =
 meK G e (fun v m c => br (isNone v) (K (.p thr1) m c) (caK G g v (fun each m c => br (!isNone each) (G (V "") (V "_law_rounds") [.obj 0, .p (sP lid e b t g st nw (.tup []) k), each] K m c) (K (.p thr1) m c)) m c)) m c := by kernel_rfl
theorem dH5 (lid : Int) (e b t : PV) (g st nw : Int) (own mid k : Int) (m : Mem) : run P HL G 0 (V "_law_over_pattern") [.obj 0, .p (sP lid e b t g st nw (mRef own mid) k)] K m c =
 meK G e (fun v m c => br (isNone v) (K (.p thr1) m c) (caK G g v (fun each m c => br (!isNone each) (G (V "") (V "_law_rounds") [.obj 0, .p (sP lid e b t g st nw (mRef own mid) k), each] (fun r => disK G v each r mid K) m c) (K (.p thr1) m c)) m c)) m c := by kernel_rfl
noncomputable def rdW (n : Nat) (K : Kt (Flw × Loc)) : Loc -> Mem -> Nat -> Prop := aL9 (fun loc => evT (ext P) HL.fz (inl (ext P) HL G 0) (exS (stA 233 0)) (scA 233) loc (evE (ext P) HL.fz (inl (ext P) HL G 0) (exS (stA 233 0)) (scA 233) loc)) (evSs (ext P) HL.fz (inl (ext P) HL G 0) (aL1 (stA 233 0)) (scA 233)) K n
noncomputable def locR (s : PV) (v : MV) (r : Loc) : Loc := (V "env", .obj 0) :: (V "s", .p s) :: (V "each", v) :: r
theorem bH6 (lid : Int) (e b t : PV) (g st nw : Int) (d : PV) (k : Int) (v : MV) (m : Mem) : run P HL G 0 (V "_law_rounds") [.obj 0, .p (sP lid e b t g st nw d k), v] K m c = ∃ n, rdW P G n (blkK K) (locR (sP lid e b t g st nw d k) v []) m c := by kernel_rfl
noncomputable def cA6 (K : Kt MV) (lid st nw : Int) (b : PV) (v : MV) (go : MV -> Mem -> Nat -> Prop) (m : Mem) (c : Nat) : Prop :=
 caK G st v (fun x m c => cmpE x (i_ 1) (fun x m c => truK x (fun z m c => br z (caK G nw v (fun y => putK lid y (exK G b fun r => aJ7 P K (go r) r)) m c) (K n_ m c)) m c) m c) m c
theorem bH1 (lid : Int) (e b t : PV) (g st nw : Int) (d : PV) (k : Int) (v : MV) (n : Nat) (m : Mem) : rdW P G (n + 1) (blkK K) (locR (sP lid e b t g st nw d k) v []) m c = cA6 P G K lid st nw b v (fun r => rdW P G n (blkK K) (locR (sP lid e b t g st nw d k) v [(V "end", r)])) m c := by kernel_rfl
theorem bF6 (lid : Int) (e b t : PV) (g st nw : Int) (d : PV) (k : Int) (v r : MV) (n : Nat) (m : Mem) : rdW P G (n + 1) (blkK K) (locR (sP lid e b t g st nw d k) v [(V "end", r)]) m c = cA6 P G K lid st nw b v (fun r => rdW P G n (blkK K) (locR (sP lid e b t g st nw d k) v [(V "end", r)])) m c := by kernel_rfl
end
section
variable (n : Nat) (P : PI) (w : FD) (tl : Mem) (G : Orc) (K : Kt MV) (c : Nat)
noncomputable def thrF (n : Int) (w : FD) (c : Nat) (k : KD) : Prop := br (decide (w.thr = 0)) (k (pi 0) { w with thr := n } (c + 1)) (k (pi 0) w c)
theorem dG1 (mid : Int) : run P HX G (n + 4) xCa [.obj 0, i_ mid, n_] K (FW w tl) c = thrF 1 w c (onK K tl) := by kernel_rfl
noncomputable abbrev FD.evt (w : FD) (s : Str) (n : Nat) : FD := w.say (.str s) (pn n)
noncomputable def getF (w : FD) (on : Nat) (c : Nat) (a b : FD -> Nat -> Prop) : Prop := onN (on : Int) fun i => som w.specs[i]? fun x => onT x fun l => som l[2]? fun t => truB t fun t => br t (a (w.evt (V "get") on) (c + 1)) (b (w.evt (V "get") on) (c + 1))
theorem dP9 (on : Nat) : run P HX G (n + 4) xCa [.obj 0, i_ 2, .p (pn on)] K (FW { w with live := .pl [] } tl) c =
 getF w on c (fun w c => K n_ (FW { w with live := .pl [] } tl) c) (fun w c => K (i_ 0) (FW { w with live := .list [.obj (tl.length + 7)] } (tl ++ [.pl [pn on, pi 0]])) (c + 2 + 1)) := by kernel_rfl
theorem cR0 (on : Nat) (l : List MV) : run P HX G (n + 4) xCa [.obj 0, i_ 2, .p (pn on)] K (FW { w with live := .list l } tl) c =
 getF w on c (fun w c => K n_ (FW { w with live := .list l } tl) c) (fun w c => K (i_ (((l ++ [MV.obj (tl.length + 7)]).length : Int) - 1)) (FW { w with live := .list (l ++ [.obj (tl.length + 7)]) } (tl ++ [.pl [pn on, pi 0]])) (c + 2 + 1)) := by kernel_rfl
theorem dG9 (on : Nat) : run P HX G (n + 4) xCa [.obj 0, i_ 3, .p (pn on)] K (FW { w with live := .pl [] } tl) c =
 getF w on c (fun w c => K n_ (FW { w with live := .pl [] } tl) c) (fun w c => K (i_ 0) (FW { w with live := .list [.obj (tl.length + 7)] } (tl ++ [.pl [pn on, pi 0]])) (c + 2 + 1)) := by kernel_rfl
theorem cY6 (on : Nat) (l : List MV) : run P HX G (n + 4) xCa [.obj 0, i_ 3, .p (pn on)] K (FW { w with live := .list l } tl) c =
 getF w on c (fun w c => K n_ (FW { w with live := .list l } tl) c) (fun w c => K (i_ (((l ++ [MV.obj (tl.length + 7)]).length : Int) - 1)) (FW { w with live := .list (l ++ [.obj (tl.length + 7)]) } (tl ++ [.pl [pn on, pi 0]])) (c + 2 + 1)) := by kernel_rfl
theorem cQ6 (on : Nat) : run P HX G (n + 4) xCa [.obj 0, i_ 8, .p (pn on)] K (FW w tl) c = K (i_ 0) (FW (w.evt (V "over") on) tl) (c + 1) := by kernel_rfl
theorem cQ3 (on : Nat) : run P HX G (n + 4) xCa [.obj 0, i_ 9, .p (pn on)] K (FW w tl) c = K (i_ 0) (FW (w.evt (V "over") on) tl) (c + 1) := by kernel_rfl
theorem bX9 (on : Nat) : run P HX G (n + 4) xCa [.obj 0, i_ 10, .p (pn on)] K (FW w tl) c = K (i_ 0) (FW (w.evt (V "over") on) tl) (c + 1) := by kernel_rfl
theorem cA5 (on : Nat) : run P HX G (n + 4) xCa [.obj 0, i_ 11, .p (pn on)] K (FW w tl) c = K (i_ 0) (FW (w.evt (V "over") on) tl) (c + 1) := by kernel_rfl
noncomputable def rowF (l : List MV) (on : Nat) (k : MV -> Prop) : Prop := onN (on : Int) fun i => som l[i]? k
noncomputable def cF6 (x : MV) (K : Kt MV) : Mem -> Nat -> Prop := getI x (i_ 1) (fun u => iop .Add u (i_ 1) (fun u => setI x (i_ 1) u (fun _ => getI x (i_ 1) (fun a => getI (.obj 0) (.p (.str (V "specs"))) (fun sp => getI x (i_ 0) (fun o => getI sp o (fun q => getI q (i_ 0) (fun b => aG1 (ext P) .LtE a b (fun z => truK z (fun z m c => br z (K (i_ 1) m c) (K (i_ 0) m c)))))))))))
theorem cZ (on : Nat) (l : List MV) : run P HX G (n + 4) xCa [.obj 0, i_ 4, .p (pn on)] K (FW { w with live := .list l } tl) c = rowF l on fun x => cF6 P x K (FW ({ w with live := .list l }.evt (V "step") on) tl) (c + 1) := by kernel_rfl
theorem cP4 (on : Nat) (l : List MV) : run P HX G (n + 4) xCa [.obj 0, i_ 6, .p (pn on)] K (FW { w with live := .list l } tl) c = rowF l on fun x => cF6 P x K (FW ({ w with live := .list l }.evt (V "step") on) tl) (c + 1) := by kernel_rfl
noncomputable def nowF (x : MV) (on : Nat) (K : Kt MV) : Mem -> Nat -> Prop := getI x (i_ 1) (fun u => aF0 .Mult (i_ 10) u (fun u => aF0 .Add u (.p (pn on)) K))
theorem dT3 (on : Nat) (l : List MV) : run P HX G (n + 4) xCa [.obj 0, i_ 5, .p (pn on)] K (FW { w with live := .list l } tl) c = rowF l on fun x => nowF x on K (FW ({ w with live := .list l }.evt (V "now") on) tl) (c + 1) := by kernel_rfl
theorem dH8 (on : Nat) (l : List MV) : run P HX G (n + 4) xCa [.obj 0, i_ 7, .p (pn on)] K (FW { w with live := .list l } tl) c = rowF l on fun x => nowF x on K (FW ({ w with live := .list l }.evt (V "now") on) tl) (c + 1) := by kernel_rfl
theorem aV7 (kind fid : Int) : run P HX G (n + 4) xMe [.obj 0, .p (aA3 kind fid)] K (FW w tl) c = rdF fid w c (onK K tl) := by kernel_rfl
theorem eB7 (kind : Int) (lid : Nat) : run P HX G (n + 4) xMe [.obj 0, .p (eLoc kind lid)] K (FW w tl) c = som (aA9 (pn lid) w.vars) fun x => chk (aA8 (pn lid) w.vars) (K x (FW w tl) c) := by kernel_rfl
theorem bU3 (kind v : Int) : run P HX G (n + 4) xMe [.obj 0, .p (aJ6 kind v)] K (FW w tl) c = K (i_ v) (FW w tl) c := by kernel_rfl
theorem cU7 (kind ev : Int) (lid : Nat) : run P HX G (n + 4) xMe [.obj 0, .p (eAsg kind (aA3 kind ev) (eLoc kind lid))] K (FW w tl) c =
  som (aA9 (pn lid) w.vars) fun x => chk (aA8 (pn lid) w.vars) (som (allP [i_ (-ev), x]) fun l => chk (Nat.ble l.length 1000) (K x (FW (w.add (.tup l)) tl) (c + 1))) := by kernel_rfl
theorem dK1 (fid : Int) : run P HX G (n + 4) xMe [.obj 0, .p (eAsg 21 (eLoc 21 1) (aA3 21 fid))] K (FW w tl) c = rdF fid w c fun v w c => chk (aA8 (pi 1) w.vars) (K (.p v) (FW { w with vars := dput (pi 1) (.p v) w.vars } tl) (c + 1)) := by kernel_rfl
end
noncomputable def aQ7 : List Nat -> MO
 | [] => .pl []
 | j :: r => .list ((j :: r).map fun j => .obj (j + 7))
noncomputable def Ac (cm z g l : Nat) (t : Int) (c : Nat) : Prop := 4 * t + g + z <= 80000 /\ c + 10 * (g + z) <= cm /\ l + g + z <= 80000
structure Sg where
 tp : List Bool
 sp : List Spec
 ex : List PV
 kp : List (Nat × List (PV × MV))
 u : Int
 cm : Nat
structure Rw (g : Sg) (z : Nat) (e : En) (w : FD) (tl : Mem) (c : Nat) : Prop where
 at_ : w.at_ = e.at_
 out : w.out = e.out
 vars : ∀ i v, e.vars i = some v -> aA9 (pn i) w.vars = some (.p v)
 keys : allK 0 w.vars = true
 live : ∃ js : List Nat, w.live = aQ7 js /\ js.Nodup /\ js.length = e.live.length /\ ∀ (k on cnt : Nat), e.live[k]? = some (on, cnt) -> ∃ j : Nat, js[k]? = some j /\ tl[j]? = some (.pl [pn on, pn cnt])
 specs : w.specs = g.sp.map aC1
 tape : w.tape = g.tp.map fun b => pi (b2i b)
 thr : w.thr = 0
 ac : Ac g.cm z e.gas e.live.length w.turns c
 tpl : g.tp.length <= 1000
 spl : g.sp.length <= 1000
 cnts : ∀ s ∈ g.sp, s.count < 1000
 extra : w.extra = g.ex
 kept : ∀ x ∈ g.kp, tl[x.1]? = some (.dict x.2)
 low : g.u <= w.turns
section
variable {g : Sg} {z : Nat} {e : En} {w : FD} {tl : Mem} {c : Nat} {k : KD}
theorem decT {p : Prop} [Decidable p] (h : p) {X Y : Prop} (x : X) : br (decide p) X Y := by rw [decide_eq_true h]; exact x
theorem decF {p : Prop} [Decidable p] (h : ¬p) {X Y : Prop} (y : Y) : br (decide p) X Y := by rw [decide_eq_false h]; exact y
theorem aM4 {ev : Int} (h : ev < 1000 ∨ (1000 < ev /\ ev < 1080)) (q : k (pi ev) (w.say (pi ev) (pi ev)) (c + 1)) : rdF ev w c k :=
 decF (by lia) (decF (by lia) (decF (by lia) (decF (by lia) q)))
theorem cI3 {c₀ : Nat} (R : Rw g z e w tl c₀) (q : k (pi (b2i (ans g.tp e))) ({ w with at_ := w.at_ + 1 }.say (pi 1000) (pi (b2i (ans g.tp e)))) (c + 1 + 1)) : rdF 1000 w c k := by
 show br (decide ((w.at_ : Int) < w.tape.length)) (chk (Nat.blt w.at_ 1000000) (som w.tape[w.at_]? fun v => outF 1000 v { w with at_ := w.at_ + 1 } (c + 1) k)) (k (pi 0) ({ w with at_ := w.at_ + 1 }.say (pi 1000) (pi 0)) (c + 1 + 1))
 have e1 : w.tape[w.at_]? = g.tp[e.at_]?.map fun b => pi (b2i b) := by rw [R.tape, R.at_, zza]
 have ha : ans g.tp e = (g.tp[e.at_]?).getD false := List.getD_eq_getElem?_getD ..
 have hl : w.tape.length = g.tp.length := R.tape ▸ zzZ ..
 rw [ha] at q
 cases ht : g.tp[e.at_]? with
 | none =>
  rw [ht] at q
  have := List.getElem?_eq_none_iff.mp ht
  exact decF (by rw [hl, R.at_]; lia) q
 | some b =>
  rw [ht] at q e1
  have := (zzA.mp ht).1
  refine decT (by rw [hl, R.at_]; lia) ?_
  rw [e1, show Nat.blt w.at_ 1000000 = true from zzI (R.at_ ▸ nT this (nT R.tpl (by decide)))]
  exact q
theorem bX2 {r : Nat} (h : r < 4) (q : k (arrV (rowL r)) (w.say (pi (1080 + r)) (orZ (arrV (rowL r)))) (c + 1)) : rdF (1080 + r) w c k := by
 refine decF (by lia) (decF (by lia) (decF (by lia) (decT (by lia) ?_)))
 rw [show (1080 : Int) + r - 1080 = r by lia]
 rcases (show r = 0 ∨ r = 1 ∨ r = 2 ∨ r = 3 by lia) with e | e | e | e <;> (subst e; exact q)
theorem cL8 {u : Nat} (q : k (useV u) (w.say (pi (fUse u)) (orZ (useV u))) (c + 1)) : rdF (fUse u) w c k := by
 by_cases h : u = 1
 ·subst h; exact q
 ·have e1 : fUse u = 1090 := by unfold fUse; split <;> first | rfl | exact absurd rfl h
  have e2 : useV u = pi 1090 := by unfold useV; split <;> first | rfl | exact absurd rfl h
  rw [e1, e2] at q
  rw [e1]; exact q
theorem bL2 {c₀ : Nat} (R : Rw g z e w tl c₀) {i : Nat} {s : Spec} (h : g.sp[i]? = some s) (hi : i < 1000000)
  (q1 : s.null = true -> k .none (w.say (pi (1100 + i)) (pi 0)) (c + 1)) (q2 : s.null = false -> k (pn i) (w.say (pi (1100 + i)) (pn i)) (c + 1)) : rdF (1100 + i) w c k := by
 refine decF (by lia) (decT (by lia) ?_)
 rw [show (1100 : Int) + i - 1100 = i by lia]
 show chk (Nat.blt i 1000000) (som w.specs[i]? _)
 rw [show Nat.blt i 1000000 = true from zzI hi, R.specs, zza, h]
 show br s.null (outF _ .none w c k) (outF _ (pn i) w c k)
 cases hs : s.null with
 | true => exact q1 hs
 | false => exact q2 hs
end
section
variable {g : Sg} {z : Nat} {e : En} {w : FD} {tl : Mem} {c c' : Nat} {k : KD}
theorem Rw.pay (R : Rw g z e w tl c) {n : Nat} (h : n <= e.gas) : Rw g (z + n) { e with gas := e.gas - n } w tl c :=
 ⟨R.at_, R.out, R.vars, R.keys, R.live, R.specs, R.tape, R.thr, by have := R.ac; show Ac g.cm (z + n) (e.gas - n) e.live.length w.turns c; unfold Ac at *; lia, R.tpl, R.spl, R.cnts, R.extra, R.kept, R.low⟩
theorem Rw.le {z' : Nat} (R : Rw g z' e w tl c) (h : z <= z') : Rw g z e w tl c :=
 ⟨R.at_, R.out, R.vars, R.keys, R.live, R.specs, R.tape, R.thr, by have := R.ac; unfold Ac at *; lia, R.tpl, R.spl, R.cnts, R.extra, R.kept, R.low⟩
theorem Rw.pays (m : Nat) (R : Rw g z e w tl c) {n : Nat} (h : n <= e.gas) (k : m <= n) : Rw g (z + m) { e with gas := e.gas - n } w tl c := (R.pay h).le (zzD k z)
theorem Rw.use {m : Nat} (R : Rw g (z + m) e w tl c) (h : c' <= c + 10 * m) : Rw g z e w tl c' :=
 ⟨R.at_, R.out, R.vars, R.keys, R.live, R.specs, R.tape, R.thr, by have := R.ac; unfold Ac at *; lia, R.tpl, R.spl, R.cnts, R.extra, R.kept, R.low⟩
theorem Rw.emit (R : Rw g z e w tl c) (a b : PV) : Rw g z (e.emit a b) (w.say a b) tl c :=
 ⟨R.at_, congrArg (· ++ _) R.out, R.vars, R.keys, R.live, R.specs, R.tape, R.thr, R.ac, R.tpl, R.spl, R.cnts, R.extra, R.kept, R.low⟩
theorem Rw.asked (R : Rw g (z + 1) e w tl c) (h : c' <= c + 10) : Rw g z (e.asked g.tp) ({ w with at_ := w.at_ + 1 }.say (pi 1000) (pi (b2i (ans g.tp e)))) tl c' :=
 ⟨congrArg (· + 1) R.at_, congrArg (· ++ _) R.out, R.vars, R.keys, R.live, R.specs, R.tape, R.thr, by have := R.ac; show Ac g.cm z e.gas e.live.length w.turns c'; unfold Ac at *; lia, R.tpl, R.spl, R.cnts, R.extra, R.kept, R.low⟩
theorem okn {i : Nat} : okK 4 (pn i) = true := rfl
theorem cM {i j : Nat} (q : i ≠ j) : pn j ≠ pn i := fun z => q (Int.ofNat.inj (PV.int.inj z)).symm
theorem aS1 {i j : Nat} {v : MV} {es : List (PV × MV)} : allK 0 es = true -> aA9 (pn i) (dput (pn j) v es) = if i = j then some v else aA9 (pn i) es := by
 induction es with
 | nil =>
  intro _
  show aA9 (pn i) [(pn j, v)] = _
  rw [aC5 okn okn]
  by_cases q : i = j
  ·rw [if_pos q, if_pos (congrArg pn q.symm)]
  ·rw [if_neg q, if_neg (show ¬(pn j, v).1 = pn i from cM q)]
 | cons x r ih =>
  refine fun a => aA a fun a1 a2 => aA a1 fun _ a1 => ?_
  rw [aI3 a1 okn]
  by_cases q : x.1 = pn j
  ·rw [if_pos q, aC5 (x := (x.1, v)) a1 okn, aC5 a1 okn, q]
   by_cases z : i = j
   ·rw [if_pos z, if_pos (congrArg pn z.symm)]
   ·rw [if_neg z, if_neg (cM z), if_neg (cM z)]
  ·rw [if_neg q, aC5 a1 okn, aC5 a1 okn, ih a2]
   by_cases z : x.1 = pn i
   ·rw [if_pos z, if_pos z, if_neg fun w : i = j => q (w ▸ z)]
   ·rw [if_neg z, if_neg z]
theorem Rw.set (R : Rw g z e w tl c) (lid : Nat) (v : PV) : Rw g z (e.set lid v) { w with vars := dput (pn lid) (.p v) w.vars } tl c :=
 ⟨R.at_, R.out, fun i u hu => by
  show aA9 (pn i) (dput (pn lid) (.p v) w.vars) = _
  rw [aS1 R.keys]
  revert hu
  show (match Nat.beq i lid with | true => some v | false => e.vars i) = some u -> _
  by_cases q : i = lid
  ·rw [if_pos q, q, Nat.beq_refl]; exact fun z => congrArg _ (congrArg _ (zzC z))
  ·rw [if_neg q, show Nat.beq i lid = false from by { cases h : Nat.beq i lid with | true => exact absurd (zzX h) q | false => rfl }]; exact R.vars i u, aD2 (k := pn lid) okn R.keys, R.live, R.specs, R.tape, R.thr, R.ac, R.tpl, R.spl, R.cnts, R.extra, R.kept, R.low⟩
end
section
variable {g : Sg} {z : Nat} {e : En} {w : FD} {tl : Mem} {c c' : Nat} {k : KD} {P : PI} {K : Kt MV}
theorem bL (js : List Nat) (j : Nat) : aQ7 (js ++ [j]) = .list (js.map (fun j => MV.obj (j + 7)) ++ [.obj (j + 7)]) := by
 cases js with
 | nil => rfl
 | cons a r => exact congrArg MO.list (List.map_append (l₁ := a :: r))
theorem Rw.push {js : List Nat} (R : Rw g (z + 1) e w tl c) (h1 : w.live = aQ7 js) (h2 : js.Nodup) (h3 : js.length = e.live.length) (h4 : ∀ (k on cnt : Nat), e.live[k]? = some (on, cnt) -> ∃ j : Nat, js[k]? = some j /\ tl[j]? = some (.pl [pn on, pn cnt])) (i : Nat) (hj : ∀ j ∈ js, j < tl.length) (hc : c' <= c + 10) :
  Rw g z { e with live := e.live ++ [(i, 0)] } { w with live := aQ7 (js ++ [tl.length]) } (tl ++ [.pl [pn i, pi 0]]) c' where
 at_ := R.at_
 out := R.out
 vars := R.vars
 keys := R.keys
 live := by
  refine ⟨js ++ [tl.length], rfl, List.nodup_append.mpr ⟨h2, List.pairwise_singleton _ _, fun a ha b hb q => Nat.ne_of_lt (hj a ha) (q.trans (zzJ.mp hb))⟩, ?_, fun k on cnt q => ?_⟩
  ·show (js ++ [tl.length]).length = (e.live ++ [(i, 0)]).length
   rw [zzB, zzB, h3]; rfl
  ·by_cases z : k < e.live.length
   ·rw [zzH z] at q
    exact ex1 (h4 k on cnt q) fun j x => ⟨j, (zzH (h3 ▸ z)).trans x.1, (zzH (zzA.mp x.2).1).trans x.2⟩
   ·by_cases z2 : k = e.live.length
    ·subst z2
     rw [zzO] at q
     cases q
     exact ⟨tl.length, h3 ▸ zzO, zzO⟩
    ·exact nomatch (List.getElem?_eq_none (by rw [zzB, List.length_singleton]; lia)).symm.trans q
 specs := R.specs
 tape := R.tape
 thr := R.thr
 ac := by have := R.ac; show Ac g.cm z e.gas (e.live ++ [(i, 0)]).length w.turns c'; rw [zzB]; unfold Ac at *; show _ /\ _ /\ e.live.length + 1 + e.gas + z <= 80000; lia
 tpl := R.tpl
 spl := R.spl
 cnts := R.cnts
 extra := R.extra
 kept := fun x q => (zzH (zzA.mp (R.kept x q)).1).trans (R.kept x q)
 low := R.low
theorem Rw.step {js : List Nat} (R : Rw g z e w tl c) (h1 : w.live = aQ7 js) (h2 : js.Nodup) (h3 : js.length = e.live.length) (h4 : ∀ (k on cnt : Nat), e.live[k]? = some (on, cnt) -> ∃ j : Nat, js[k]? = some j /\ tl[j]? = some (.pl [pn on, pn cnt])) {a on cnt j : Nat} {l : List PV} (ha : js[a]? = some j) (hp : tl[j]? = some (.pl l)) :
  Rw g z { e with live := e.live.set a (on, cnt) } w (tl.set j (.pl [pn on, pn cnt])) c where
 at_ := R.at_
 out := R.out
 vars := R.vars
 keys := R.keys
 live := by
  refine ⟨js, h1, h2, h3.trans List.length_set.symm, fun k on' cnt' q => ?_⟩
  by_cases z : a = k
  ·subst z
   have hl : a < e.live.length := h3 ▸ (zzA.mp ha).1
   cases (zze hl).symm.trans q
   exact ⟨j, ha, zze (zzA.mp hp).1⟩
  ·exact ex1 (h4 k on' cnt' ((List.getElem?_set_ne z).symm.trans q)) fun j' x => ⟨j', x.1, (List.getElem?_set_ne fun w => z ((List.getElem?_inj (zzA.mp ha).1 h2).mp (ha.trans ((congrArg some w).trans x.1.symm)))).trans x.2⟩
 specs := R.specs
 tape := R.tape
 thr := R.thr
 ac := by show Ac g.cm z e.gas (e.live.set a (on, cnt)).length w.turns c; rw [List.length_set]; exact R.ac
 tpl := R.tpl
 spl := R.spl
 cnts := R.cnts
 extra := R.extra
 kept := fun x q => (List.getElem?_set_ne (fun z => by subst z; exact nomatch hp.symm.trans (R.kept x q))).trans (R.kept x q)
 low := R.low
theorem aH1 {m : Mem} {i n : Nat} {l : List PV} {x : PV} (h : m[i]? = some (.pl l)) (hx : l[n]? = some x) (hn : n < 1000000) (q : K (.p x) m c) : getI (.obj i) (.p (pn n)) K m c := by
 show (match m[i]? with | some (.pl l) => _ | some (.list l) => _ | some (.dict es) => _ | _ => False)
 rw [h]
 show chk (Nat.blt n 1000000) (som l[n]? fun x => K (.p x) m c)
 rw [show Nat.blt n 1000000 = true from zzI hn, hx]
 exact q
theorem cN9 {m : Mem} {i n : Nat} {l : List PV} {x : PV} {K : Kt Unit} (h : m[i]? = some (.pl l)) (hl : n < l.length) (hn : n < 1000000) (q : K () (m.set i (.pl (l.set n x))) c) : setI (.obj i) (.p (pn n)) (.p x) K m c := by
 show (match m[i]? with | some (.pl l) => _ | some (.dict es) => _ | _ => False)
 rw [h]
 show chk (Nat.blt n 1000000) (chk (Nat.blt n l.length) (K () (m.set i (.pl (l.set n x))) c))
 rw [show Nat.blt n 1000000 = true from zzI hn, show Nat.blt n l.length = true from zzI hl]
 exact q
theorem cV1 {m : Mem} {i j : Int} (q : K (i_ (i + j)) m c) : iop .Add (i_ i) (i_ j) K m c := q
theorem aW1 : getI (.obj 0) (.p (.str (V "specs"))) K (FW w tl) c = K (.obj 4) (FW w tl) c := by kernel_rfl
theorem cC9 : getI (.obj 0) (.p (.str (V "vars"))) K (FW w tl) c = K (.obj 2) (FW w tl) c := by kernel_rfl
theorem dE6 {j on cnt : Nat} {s : Spec} (hj : tl[j]? = some (.pl [pn on, pn cnt])) (hs : w.specs[on]? = some (aC1 s)) (ho : on < 1000000) (q : K (i_ (b2i (decide (cnt + 1 <= s.count)))) (FW w (tl.set j (.pl [pn on, pn (cnt + 1)]))) c) : cF6 P (.obj (j + 7)) K (FW w tl) c := by
 have hj' : (tl.set j (.pl [pn on, pn (cnt + 1)]))[j]? = some (.pl [pn on, pn (cnt + 1)]) := zze (zzA.mp hj).1
 refine aH1 (n := 1) (show (FW w tl)[j + 7]? = _ from hj) rfl (by decide) ?_
 refine cV1 (i := cnt) (j := 1) ?_
 refine cN9 (n := 1) (l := [pn on, pn cnt]) (show (FW w tl)[j + 7]? = _ from hj) (zzb 1) (by decide) ?_
 refine aH1 (m := FW w (tl.set j (.pl [pn on, pn (cnt + 1)]))) (n := 1) (show (tl.set j (.pl [pn on, pn (cnt + 1)]))[j]? = _ from hj') rfl (by decide) ?_
 refine (aW1 (w := w) (tl := tl.set j (.pl [pn on, pn (cnt + 1)]))).mpr ?_
 refine aH1 (m := FW w (tl.set j (.pl [pn on, pn (cnt + 1)]))) (n := 0) (show (tl.set j (.pl [pn on, pn (cnt + 1)]))[j]? = _ from hj') rfl (by decide) ?_
 refine aH1 (i := 4) (n := on) rfl hs ho ?_
 show br (decide (((cnt : Int) + 1) <= (s.count : Int))) (K (i_ 1) (FW w (tl.set j (.pl [pn on, pn (cnt + 1)]))) c) (K (i_ 0) (FW w (tl.set j (.pl [pn on, pn (cnt + 1)]))) c)
 by_cases z : cnt + 1 <= s.count
 ·rw [decide_eq_true z] at q; exact decT (by lia) q
 ·rw [decide_eq_false z] at q; exact decF (by lia) q
end
section
variable {g : Sg} {z : Nat} {e : En} {w : FD} {tl : Mem} {c c' : Nat} {k : KD} {P : PI} {G : Orc} {K : Kt MV} {n : Nat}
theorem eC6 {m : Mem} {i j : Int} (h : bA3 i j = true) (q : K (i_ (i * j)) m c) : aF0 .Mult (i_ i) (i_ j) K m c := by
 show chk (bA3 i j) (K (i_ (i * j)) m c)
 rw [h]; exact q
theorem eF {j on cnt each : Nat} (hj : tl[j]? = some (.pl [pn on, pn cnt])) (hc : cnt < 1000) (q : K (.p (pn (10 * cnt + each))) (FW w tl) c) : nowF (.obj (j + 7)) each K (FW w tl) c := by
 refine aH1 (n := 1) (show (FW w tl)[j + 7]? = _ from hj) rfl (by decide) ?_
 refine eC6 (i := 10) (j := cnt) ?_ q
 unfold bA3
 rw [decide_eq_true (show (10 : Int).natAbs < 2 ^ 31 by decide), decide_eq_true (show ((cnt : Nat) : Int).natAbs < 2 ^ 31 from Nat.lt_trans hc (by decide))]; rfl
noncomputable abbrev Lv (g : Sg) (z : Nat) (e' : En) (k : FD -> Mem -> Nat -> Prop) : Prop := ∀ w' tl' c', Rw g z e' w' tl' c' -> k w' tl' c'
theorem cE6 (R : Rw g z e w tl c) {i : Nat} {s : Spec} (hs : g.sp[i]? = some s) (hi : i < 1000000) {a b : FD -> Nat -> Prop} (q1 : s.nullE = true -> a (w.evt (V "get") i) (c' + 1)) (q2 : s.nullE = false -> b (w.evt (V "get") i) (c' + 1)) : getF w i c' a b := by
 show chk (Nat.blt i 1000000) (som w.specs[i]? _)
 rw [show Nat.blt i 1000000 = true from zzI hi, R.specs, zza, hs]
 show br s.nullE (a (w.evt (V "get") i) (c' + 1)) (b (w.evt (V "get") i) (c' + 1))
 cases z : s.nullE with
 | true => exact q1 z
 | false => exact q2 z
theorem cL (R : Rw g (z + 2) e w tl c) {i : Nat} {s : Spec} (hs : g.sp[i]? = some s) (hi : i < 1000000) {gg : Int} (hg : gg = 2 ∨ gg = 3)
  (q1 : s.nullE = true -> Lv g z (e.ev (V "get") i) fun w tl c => K n_ (FW w tl) c)
  (q2 : s.nullE = false -> Lv g z { e.ev (V "get") i with live := e.live ++ [(i, 0)] } fun w tl c => K (.p (pn e.live.length)) (FW w tl) c) : run P HX G (n + 4) xCa [.obj 0, i_ gg, .p (pn i)] K (FW w tl) c := by
 obtain ⟨js, h1, h2, h3, h4⟩ := R.live
 have hj : ∀ j ∈ js, j < tl.length := fun j q => ex1 (zzM.mp q) fun k ek => by
  have hk : k < e.live.length := h3 ▸ (zzA.mp ek).1
  exact ex1 (h4 k _ _ (zzT hk)) fun j' x => by
   cases ek.symm.trans x.1
   exact (zzA.mp x.2).1
 have R1 := R.emit (.str (V "get")) (pn i)
 have n1 : s.nullE = true -> K n_ (FW (w.evt (V "get") i) tl) (c + 1) := fun z => q1 z _ _ _ (R1.use (by lia))
 have n2 : s.nullE = false -> K (.p (pn e.live.length)) (FW { w.evt (V "get") i with live := aQ7 (js ++ [tl.length]) } (tl ++ [.pl [pn i, pi 0]])) (c + 1 + 2 + 1) := fun z => q2 z _ _ _ ((R1.push (c' := c) h1 h2 h3 h4 i hj (by lia)).use (m := 1) (by lia))
 obtain ⟨a1, a2, a3, a4, a5, a6, a7, a8, a9⟩ := w
 cases (show a4 = aQ7 js from h1)
 rw [<- h3] at n2
 cases js with
 | nil => exact hg.elim (fun z => by subst z; exact (dP9 n P ⟨a1, a2, a3, .pl [], a5, a6, a7, a8, a9⟩ tl G K c i).mpr (cE6 R hs hi n1 n2)) fun z => by subst z; exact (dG9 n P ⟨a1, a2, a3, .pl [], a5, a6, a7, a8, a9⟩ tl G K c i).mpr (cE6 R hs hi n1 n2)
 | cons a r =>
  have n3 : s.nullE = false -> K (i_ ((((a :: r).map (fun j => MV.obj (j + 7)) ++ [MV.obj (tl.length + 7)]).length : Int) - 1)) (FW { (⟨a1, a2, a3, aQ7 (a :: r), a5, a6, a7, a8, a9⟩ : FD).evt (V "get") i with live := .list ((a :: r).map (fun j => MV.obj (j + 7)) ++ [.obj (tl.length + 7)]) } (tl ++ [.pl [pn i, pi 0]])) (c + 1 + 2 + 1) := fun z => by
   have := n2 z
   rw [bL] at this
   rw [show ((((a :: r).map (fun j => MV.obj (j + 7)) ++ [MV.obj (tl.length + 7)]).length : Int) - 1) = ((a :: r).length : Nat) by rw [zzB, zzZ, List.length_singleton]; lia]
   exact this
  exact hg.elim (fun z => by subst z; exact (cR0 n P ⟨a1, a2, a3, aQ7 (a :: r), a5, a6, a7, a8, a9⟩ tl G K c i ((a :: r).map fun j => MV.obj (j + 7))).mpr (cE6 R hs hi n1 n3)) fun z => by subst z; exact (cY6 n P ⟨a1, a2, a3, aQ7 (a :: r), a5, a6, a7, a8, a9⟩ tl G K c i ((a :: r).map fun j => MV.obj (j + 7))).mpr (cE6 R hs hi n1 n3)
theorem cB0 {l : List MV} {a : Nat} {x : MV} {q : MV -> Prop} (h : l[a]? = some x) (ha : a < 1000000) (k : q x) : rowF l a q := by
 show chk (Nat.blt a 1000000) (som l[a]? q)
 rw [show Nat.blt a 1000000 = true from zzI ha, h]; exact k
theorem Rw.row (R : Rw g z e w tl c) {a on cnt : Nat} (h : e.live[a]? = some (on, cnt)) : ∃ (l : List MV) (j : Nat), w.live = .list l /\ l[a]? = some (.obj (j + 7)) /\ tl[j]? = some (.pl [pn on, pn cnt]) /\
  Rw g z { e with live := e.live.set a (on, cnt + 1) } w (tl.set j (.pl [pn on, pn (cnt + 1)])) c := by
 obtain ⟨js, h1, h2, h3, h4⟩ := R.live
 refine ex1 (h4 a on cnt h) fun j x => ?_
 cases js with
 | nil => exact nomatch x.1
 | cons b r => exact ⟨(b :: r).map fun j => .obj (j + 7), j, h1, by rw [zza, x.1]; rfl, x.2, R.step h1 h2 h3 h4 x.1 x.2⟩
theorem bA7 (R : Rw g (z + 1) e w tl c) {a on cnt : Nat} {s : Spec} (h : e.live[a]? = some (on, cnt)) (hs : g.sp[on]? = some s) (ha : a < 1000000) (ho : on < 1000000) {gg : Int} (hg : gg = 4 ∨ gg = 6)
  (q : Lv g z { e.ev (V "step") a with live := e.live.set a (on, cnt + 1) } fun w tl c => K (i_ (b2i (decide (cnt + 1 <= s.count)))) (FW w tl) c) : run P HX G (n + 4) xCa [.obj 0, i_ gg, .p (pn a)] K (FW w tl) c := by
 obtain ⟨l, j, h1, h2, h3, R2⟩ := (R.emit (.str (V "step")) (pn a)).row h
 have hsp : w.specs[on]? = some (aC1 s) := by rw [R.specs, zza, hs]; rfl
 have fin : cF6 P (.obj (j + 7)) K (FW (w.evt (V "step") a) tl) (c + 1) := dE6 h3 hsp ho (q _ _ _ (R2.use (by lia)))
 obtain ⟨a1, a2, a3, a4, a5, a6, a7, a8, a9⟩ := w
 cases (show a4 = .list l from h1)
 exact hg.elim (fun z => by subst z; exact (cZ n P ⟨a1, a2, a3, .list l, a5, a6, a7, a8, a9⟩ tl G K c a l).mpr (cB0 h2 ha fin)) fun z => by subst z; exact (cP4 n P ⟨a1, a2, a3, .list l, a5, a6, a7, a8, a9⟩ tl G K c a l).mpr (cB0 h2 ha fin)
theorem cH (R : Rw g (z + 1) e w tl c) {a on cnt : Nat} (h : e.live[a]? = some (on, cnt)) (ha : a < 1000000) (hc : cnt < 1000) {gg : Int} (hg : gg = 5 ∨ gg = 7)
  (q : Lv g z (e.ev (V "now") a) fun w tl c => K (.p (pn (10 * cnt + a))) (FW w tl) c) : run P HX G (n + 4) xCa [.obj 0, i_ gg, .p (pn a)] K (FW w tl) c := by
 obtain ⟨l, j, h1, h2, h3, _⟩ := R.row h
 have fin : nowF (.obj (j + 7)) a K (FW (w.evt (V "now") a) tl) (c + 1) := eF h3 hc (q _ _ _ ((R.emit _ _).use (by lia)))
 obtain ⟨a1, a2, a3, a4, a5, a6, a7, a8, a9⟩ := w
 cases (show a4 = .list l from h1)
 exact hg.elim (fun z => by subst z; exact (dT3 n P ⟨a1, a2, a3, .list l, a5, a6, a7, a8, a9⟩ tl G K c a l).mpr (cB0 h2 ha fin)) fun z => by subst z; exact (dH8 n P ⟨a1, a2, a3, .list l, a5, a6, a7, a8, a9⟩ tl G K c a l).mpr (cB0 h2 ha fin)
theorem bC7 (R : Rw g (z + 1) e w tl c) {a : Nat} {gg : Int} (hg : gg = 8 ∨ gg = 9 ∨ gg = 10 ∨ gg = 11)
  (q : Lv g z (e.ev (V "over") a) fun w tl c => K (i_ 0) (FW w tl) c) : run P HX G (n + 4) xCa [.obj 0, i_ gg, .p (pn a)] K (FW w tl) c := by
 have fin := q _ _ (c + 1) ((R.emit (.str (V "over")) (pn a)).use (by lia))
 rcases hg with z | z | z | z <;> subst z
 ·exact (cQ6 n P w tl G K c a).mpr fin
 ·exact (cQ3 n P w tl G K c a).mpr fin
 ·exact (bX9 n P w tl G K c a).mpr fin
 ·exact (cA5 n P w tl G K c a).mpr fin
end
noncomputable def rv : Rs -> MV
 | .next => n_
 | .brk => .p (.tup [pi 10, pi 0])
 | .cont => .p (.tup [pi 11, pi 0])
 | .ret v => .p (.tup [.str (V "ret"), pi v])
 | .thr v => .p (.tup [.str (V "thr"), pi v])
noncomputable def dep : T -> Nat
 | .cons s r => Nat.max (dep s) (dep r)
 | .blk l => dep l + 1
 | .ask y n => Nat.max (dep y) (dep n) + 1
 | .whil _ b => dep b + 1
 | .dow _ b => dep b + 1
 | .for_ _ _ _ _ b => dep b + 2
 | .try_ _ b h l => Nat.max (dep b) (Nat.max (dep h) (dep l)) + 1
 | .usg _ _ b => dep b + 1
 | .arr _ _ _ b => dep b + 1
 | .pat _ _ _ _ b => dep b + 1
 | .nil => 0
 | .ex _ => 1
 | .jump _ => 1
noncomputable def isS : T -> Bool
 | .nil => false
 | .cons _ _ => false
 | _ => true
noncomputable def ev_ (i : Int) : Prop := i < 1000
noncomputable def Ok : T -> Prop
 | .nil => True
 | .cons s r => isS s = true /\ isS r = false /\ Ok s /\ Ok r
 | .blk l => isS l = false /\ Ok l
 | .ex (.say ev) => ev_ ev
 | .ex (.hold r) => r < 4
 | .ex (.shown _ _ _) => True
 | .jump (.ret ev) => ev_ ev
 | .jump (.thr k) => k < 10
 | .jump _ => True
 | .ask y n => isS y = true /\ (n = .nil ∨ isS n = true) /\ Ok y /\ Ok n
 | .whil _ b => isS b = true /\ Ok b
 | .dow t b => t ≠ .non /\ isS b = true /\ Ok b
 | .for_ e1 _ e2 e3 b => isS b = true /\ ev_ e1 /\ ev_ e2 /\ ev_ e3 /\ Ok b
 | .try_ lid b h l => isS b = true /\ (lid = 0 ∨ isS h = true) /\ (l = .nil ∨ isS l = true) /\ Ok b /\ Ok h /\ Ok l
 | .usg _ _ b => isS b = true /\ Ok b
 | .arr _ _ src b => isS b = true /\ (∀ r, src = some r -> r < 4) /\ Ok b
 | .pat _ _ _ _ b => isS b = true /\ Ok b
section
variable {tp : List Bool} {K K' : KX}
theorem aB0 {n : Nat} {e : En} {k k' : En -> Prop} (h : ∀ e, k e -> k' e) (q : pay n e k) : pay n e k' := ⟨q.1, h _ q.2⟩
theorem aS2 {go go' : En -> Prop} (h : ∀ x e, K x e -> K' x e) (g : ∀ e, go e -> go' e) : ∀ x e, exX K go x e -> exX K' go' x e := fun x e q => by
 cases x with
 | next => exact g e q
 | cont => exact g e q
 | brk => exact h _ e q
 | ret v => exact h _ e q
 | thr v => exact h _ e q
theorem aF9 {t : Tst} {e : En} {go go' st st' : En -> Prop} (g : ∀ e, go e -> go' e) (h : ∀ e, st e -> st' e) (q : tstX tp t e go st) : tstX tp t e go' st' := by
 cases t with
 | ask =>
  revert q
  show (match ans tp e with | true => go (e.asked tp) | false => st (e.asked tp)) -> (match ans tp e with | true => go' (e.asked tp) | false => st' (e.asked tp))
  cases ans tp e with
  | true => exact g _
  | false => exact h _
 | zero => exact h _ q
 | one => exact g _ q
 | non => exact g _ q
variable {b : KX -> En -> Prop} (hb : ∀ (K K' : KX) e, (∀ x e, K x e -> K' x e) -> b K e -> b K' e)
include hb
theorem aS7 {p : En -> (En -> Prop) -> (En -> Prop) -> Prop} (hp : ∀ e (g g' s s' : En -> Prop), (∀ e, g e -> g' e) -> (∀ e, s e -> s' e) -> p e g s -> p e g' s') (h : ∀ x e, K x e -> K' x e) (k : Nat) : ∀ e, lpX b (fun e go => p e go (K .next)) K k e -> lpX b (fun e go => p e go (K' .next)) K' k e := by
 induction k with
 | zero => exact fun _ q => q
 | succ k ih => exact fun e q => hb _ _ _ (aS2 h fun e q => hp _ _ _ _ _ ih (h .next) q) q
theorem bH2 {lid : Nat} (h : ∀ x e, K x e -> K' x e) (l : List Int) : ∀ e, arX b lid K l e -> arX b lid K' l e := by
 induction l with
 | nil => exact h .next
 | cons i l ih => exact fun e q => aB0 (fun e q => hb _ _ _ (aS2 h ih) q) q
theorem aK {lid each idx : Nat} (h : ∀ x e, K x e -> K' x e) (n : Nat) : ∀ k e, rdX b lid each idx K n k e -> rdX b lid each idx K' n k e := by
 induction n with
 | zero => exact fun _ _ q => ⟨q.1, h _ _ q.2⟩
 | succ n ih => exact fun k e q => ⟨q.1, aB0 (fun e q => hb _ _ _ (aS2 h (ih _)) q) q.2⟩
end
theorem aB5 {tp : List Bool} {sp : List Spec} (t : T) : ∀ (K K' : KX) e, (∀ x e, K x e -> K' x e) -> X tp sp t K e -> X tp sp t K' e := by
 induction t with
 | nil => exact fun K K' e h q => h _ _ q
 | cons s r i1 i2 => exact fun K K' e h q => i1 _ _ _ (fun x e q => by
   cases x with
   | next => exact i2 _ _ _ h q
   | brk => exact h _ _ q
   | cont => exact h _ _ q
   | ret v => exact h _ _ q
   | thr v => exact h _ _ q) q
 | blk l ih => exact fun K K' e h q => ih _ _ _ h q
 | ex x => cases x with
  | say ev => exact fun K K' e h q => aB0 (fun e q => h _ _ q) q
  | hold r => exact fun K K' e h q => aB0 (fun e q => h _ _ q) q
  | shown lid kind ev => exact fun K K' e h q => aB0 (fun e => by cases e.vars lid <;> first | exact fun q => q | exact h _ _) q
 | jump j => cases j <;> exact fun K K' e h q => aB0 (fun e q => h _ _ q) q
 | ask y n i1 i2 => exact fun K K' e h q => aB0 (fun e q => by
   revert q
   show (match ans tp e with | true => X tp sp y K (e.asked tp) | false => X tp sp n K (e.asked tp)) -> (match ans tp e with | true => X tp sp y K' (e.asked tp) | false => X tp sp n K' (e.asked tp))
   cases ans tp e with
   | true => exact i1 _ _ _ h
   | false => exact i2 _ _ _ h) q
 | whil t b ih => exact fun K K' e h q => aB0 (fun e q => ex1 q fun k q => ⟨k, aF9 (aS7 ih (p := fun e go st => pay 13 e fun e => tstX tp t e go st) (fun e g g' s s' h1 h2 q => aB0 (fun e q => aF9 h1 h2 q) q) h k) (h .next) q⟩) q
 | dow t b ih => exact fun K K' e h q => aB0 (fun e q => ex1 q fun k q => ⟨k, aS7 ih (p := fun e go st => pay 13 e fun e => tstX tp t e go st) (fun e g g' s s' h1 h2 q => aB0 (fun e q => aF9 h1 h2 q) q) h k _ q⟩) q
 | for_ e1 t e2 e3 b ih => exact fun K K' e h q => aB0 (fun e q => ex1 q fun k q => ⟨k, aF9 (aS7 ih (p := fun e go st => pay 27 e fun e => tstX tp t ((e.said e2).said e3) go st) (fun e g g' s s' h1 h2 q => aB0 (fun e q => aF9 h1 h2 q) q) h k) (h .next) q⟩) q
 | try_ lid b hh l i1 i2 i3 =>
  intro K K' e h q
  refine aB0 (fun e q => i1 _ _ _ (fun x e => ?_) q) q
  have hl : ∀ x e, X tp sp l (fun y => K (finR x y)) e -> X tp sp l (fun y => K' (finR x y)) e := fun x e => i3 _ _ _ fun y => h _
  cases lid with
  | zero => exact hl x e
  | succ n => cases x with
   | thr v => exact i2 _ _ _ hl
   | _ => exact hl _ e
 | usg w lid b ih => exact fun K K' e h q => aB0 (fun e q => ih _ _ _ (fun x e q => ⟨q.1, h _ _ q.2⟩) q) q
 | arr lid wide src b ih =>
  intro K K' e h q
  refine aB0 (fun e => ?_) q
  cases src with
  | none => exact fun q => ex1 q fun a q => ⟨a, q.1, q.2.1, by
    cases a with
    | none => exact h _ _ q.2.2
    | some l => exact bH2 ih h l _ q.2.2⟩
  | some r =>
   show (match rowL r with | none => K (.thr 1) (e.row r) | some l => arX (X tp sp b) lid K l (e.row r)) -> (match rowL r with | none => K' (.thr 1) (e.row r) | some l => arX (X tp sp b) lid K' l (e.row r))
   cases rowL r with
   | none => exact h _ _
   | some l => exact bH2 ih h l _
 | pat lid wide sort idx b ih =>
  intro K K' e h q
  refine aB0 (fun e q => aB q fun s hs q => ?_) q
  show som sp[idx]? _
  rw [hs]
  refine ⟨q.1, ?_⟩
  have q := q.2
  revert q
  dsimp only [som]
  cases s.null with
  | true => exact h _ _
  | false => cases s.nullE with
   | true => exact h _ _
   | false => exact aK ih (fun x e q => ⟨q.1, h _ _ q.2⟩) _ _ _
section
variable {g : Sg} {z : Nat} {e : En} {w : FD} {tl : Mem} {c : Nat} {P : PI} {G : Orc} {K : Kt MV} {n : Nat}
noncomputable abbrev Lk (g : Sg) (z : Nat) (e : En) (K : Kt MV) (v : MV) : Prop := ∀ w tl c, Rw g z e w tl c -> K v (FW w tl) c
noncomputable abbrev mean (P : PI) (G : Orc) (n : Nat) (x : PV) : PT MV := run P HX G (n + 4) xMe [.obj 0, .p x]
theorem bO6 (R : Rw g (z + 1) e w tl c) {kind ev : Int} (h : ev < 1000 ∨ (1000 < ev /\ ev < 1080)) (q : Lk g z (e.said ev) K (i_ ev)) : mean P G n (aA3 kind ev) K (FW w tl) c :=
 (aV7 n P w tl G K c kind ev).mpr (aM4 h (q _ _ _ ((R.emit (pi ev) (pi ev)).use (by lia))))
theorem cH2 (R : Rw g (z + 1) e w tl c) (q : Lk g z (e.asked g.tp) K (i_ (b2i (ans g.tp e)))) : mean P G n eAsk K (FW w tl) c :=
 (aV7 n P w tl G K c 1 1000).mpr (cI3 R (q _ _ _ (R.asked (by lia))))
theorem dU2 (R : Rw g (z + 1) e w tl c) {r : Nat} (h : r < 4) (q : Lk g z (e.row r) K (.p (arrV (rowL r)))) : mean P G n (bI1 r) K (FW w tl) c :=
 (aV7 n P w tl G K c 21 (1080 + r)).mpr (bX2 h (q _ _ _ ((R.emit (pi (1080 + r)) _).use (by lia))))
theorem dF9 (R : Rw g (z + 1) e w tl c) {u : Nat} {kind : Int} (q : Lk g z (e.emit (pi (fUse u)) (orZ (useV u))) K (.p (useV u))) : mean P G n (aA3 kind (fUse u)) K (FW w tl) c :=
 (aV7 n P w tl G K c kind (fUse u)).mpr (cL8 (q _ _ _ ((R.emit (pi (fUse u)) _).use (by lia))))
theorem cZ8 (R : Rw g (z + 1) e w tl c) {i : Nat} {s : Spec} {kind : Int} (h : g.sp[i]? = some s) (hi : i < 1000000) (q1 : s.null = true -> Lk g z (e.emit (pi (1100 + i)) (pi 0)) K n_) (q2 : s.null = false -> Lk g z (e.emit (pi (1100 + i)) (pn i)) K (.p (pn i))) : mean P G n (aA3 kind (1100 + i)) K (FW w tl) c :=
 (aV7 n P w tl G K c kind (1100 + i)).mpr (bL2 R h hi (fun z => q1 z _ _ _ ((R.emit (pi (1100 + i)) (pi 0)).use (by lia))) fun z => q2 z _ _ _ ((R.emit (pi (1100 + i)) (pn i)).use (by lia)))
theorem aC6 {i : Nat} {es : List (PV × MV)} (h : allK 0 es = true) : aA8 (pn i) es = true := h
theorem dP7 (R : Rw g z e w tl c) {i : Nat} {v : PV} {kind : Int} (h : e.vars i = some v) (q : K (.p v) (FW w tl) c) : mean P G n (eLoc kind i) K (FW w tl) c := by
 refine (eB7 n P w tl G K c kind i).mpr ?_
 rw [R.vars i v h, aC6 R.keys]
 exact q
theorem cC1 (R : Rw g (z + 1) e w tl c) {i : Nat} {v : PV} {kind ev : Int} (h : e.vars i = some v) (q : Lk g z (e.emit (pi (-ev)) v) K (.p v)) : mean P G n (eAsg kind (aA3 kind ev) (eLoc kind i)) K (FW w tl) c := by
 refine (cU7 n P w tl G K c kind ev i).mpr ?_
 rw [R.vars i v h, aC6 R.keys]
 exact q _ _ _ ((R.emit (pi (-ev)) v).use (by lia))
theorem dA (R : Rw g (z + 1) e w tl c) {r : Nat} (h : r < 4) (q : Lk g z ((e.row r).set 1 (arrV (rowL r))) K (.p (arrV (rowL r)))) : mean P G n (eAsg 21 (eLoc 21 1) (bI1 r)) K (FW w tl) c := by
 refine (dK1 n P w tl G K c (1080 + r)).mpr (bX2 h ?_)
 show chk (aA8 (pn 1) w.vars) _
 rw [aC6 R.keys]
 exact q _ _ _ (((R.emit (pi (1080 + r)) _).set 1 _).use (by lia))
theorem bI7 (R : Rw g (z + 1) e w tl c) {i : Nat} {v : PV} {k : Mem -> Nat -> Prop} (q : Lk g z (e.set i v) (fun _ => k) n_) : putK i (.p v) k (FW w tl) c := by
 refine (cC9 (w := w) (tl := tl) (c := c)).mpr ?_
 show chk (aA8 (pn i) w.vars) _
 rw [aC6 R.keys]
 exact q _ _ _ ((R.set i v).use (by lia))
end
@[irreducible] noncomputable def Gj (P : PI) (Ga : Orc) (j : Nat) : Orc := inl (ext P) HX Ga j
noncomputable def Af (g : Sg) (z : Nat) (K : Kt MV) : KX := fun x e => Lk g z e K (rv x)
section
variable {g : Sg} {z : Nat} {e : En} {w : FD} {tl : Mem} {c k : Nat} {P : PI} {Ga : Orc} {K : Kt MV} {j : Nat} {F : KX}
theorem g_ex {args : List MV} {m : Mem} : Gj P Ga (j + 1) (V "") xEx args K m c = Ga (V "") xEx args K m c := by kernel_rfl
theorem g_me {args : List MV} {m : Mem} : Gj P Ga (j + 1) (V "") xMe args K m c = run P HX Ga j xMe args K m c := by kernel_rfl
theorem g_ca {args : List MV} {m : Mem} : Gj P Ga (j + 1) (V "") xCa args K m c = run P HX Ga j xCa args K m c := by kernel_rfl
theorem g_ar {args : List MV} {m : Mem} : Gj P Ga (j + 1) (V "") (V "_law_over_array") args K m c = run P HL (Gj P Ga j) 0 (V "_law_over_array") args K m c := by kernel_rfl
theorem g_pa {args : List MV} {m : Mem} : Gj P Ga (j + 1) (V "") (V "_law_over_pattern") args K m c = run P HL (Gj P Ga j) 0 (V "_law_over_pattern") args K m c := by kernel_rfl
theorem g_ro {args : List MV} {m : Mem} : Gj P Ga (j + 1) (V "") (V "_law_rounds") args K m c = run P HL (Gj P Ga j) 0 (V "_law_rounds") args K m c := by kernel_rfl
noncomputable def Oex (g : Sg) (k : Nat) (Ga : Orc) : Prop := ∀ z t K e w tl c, dep t <= k -> isS t = true -> Ok t -> Rw g z e w tl c -> X g.tp g.sp t (Af g z K) e -> Ga (V "") xEx [.obj 0, .p (enc t)] K (FW w tl) c
variable (hG : Oex g k Ga)
include hG
theorem exG {t : T} (hd : dep t <= k) (hs : isS t = true) (ho : Ok t) (R : Rw g z e w tl c) (q : X g.tp g.sp t F e) (hq : ∀ x e, F x e -> Af g z K x e) : exK (Gj P Ga (j + 1)) (enc t) K (FW w tl) c :=
 (g_ex (P := P) (j := j)).mpr (hG z t K e w tl c hd hs ho R (aB5 t _ _ _ hq q))
theorem bZ4 {s : PV} {l : T} (hd : dep l <= k) (hs : isS l = false) (ho : Ok l) : ∀ {e w tl c loc}, (loc = env0 s 3 ∨ ∃ a b, loc = env0 s 3 ++ [(V "one", a), (V "end", b)]) -> Rw g z e w tl c -> X g.tp g.sp l (Af g z K) e ->
  forL (blkF P (Gj P Ga (j + 1))) (blkK K) ((encL l).map .p) loc (FW w tl) c := by
 induction l with
 | nil => exact fun _ R q => q _ _ _ R
 | cons a r _ ih =>
  intro e w tl c loc hl R q
  have hd := zzW.mp hd
  have go : exK (Gj P Ga (j + 1)) (enc a) (locE (turn (blkK K) (forL (blkF P (Gj P Ga (j + 1))) (blkK K) ((encL r).map .p))) (env0 s 3) (enc a)) (FW w tl) c := by
   refine exG hG hd.1 ho.1 ho.2.2.1 R q fun x e q w tl c R => ?_
   cases x with
   | next => exact ih hd.2 ho.2.1 ho.2.2.2 (.inr ⟨_, _, rfl⟩) R q
   | _ => exact q w tl c R
  refine hl.elim (fun z => ?_) fun z => ex2 z fun a' b' z => ?_ <;> subst z
  ·exact (dO4 P (Gj P Ga (j + 1)) c s (enc a) _ (FW w tl)).mpr go
  ·exact (dO1 P (Gj P Ga (j + 1)) c s (enc a) a' b' _ (FW w tl)).mpr go
 | _ => exact nomatch hs
omit hG in
theorem aR6 {t : Tst} {go : Mem -> Nat -> Prop} {A B : En -> Prop} (R : Rw g (z + 1) e w tl c) (q : tstX g.tp t e A B) (ha : ∀ e, A e -> Lk g z e (fun _ => go) n_) (hb : ∀ e, B e -> Lk g z e K n_) :
  askK (Gj P Ga (j + 5)) (tst t) K go (FW w tl) c := by
 cases t with
 | ask =>
  refine (g_me (P := P) (j := j + 4)).mpr (cH2 R ?_)
  revert q
  show (match ans g.tp e with | true => A (e.asked g.tp) | false => B (e.asked g.tp)) -> _
  cases ans g.tp e with
  | true => exact fun q w tl c R => ha _ q w tl c R
  | false => exact fun q w tl c R => hb _ q w tl c R
 | zero => refine (g_me (P := P) (j := j + 4)).mpr ?_; refine (bU3 j P w tl Ga _ c 1 0).mpr ?_; exact hb _ q _ _ _ (R.use (nA _ _))
 | one => refine (g_me (P := P) (j := j + 4)).mpr ?_; refine (bU3 j P w tl Ga _ c 1 1).mpr ?_; exact ha _ q _ _ _ (R.use (nA _ _))
 | non => exact ha _ q _ _ _ (R.use (nA _ _))
end
section
variable {g : Sg} {z : Nat} {e : En} {w : FD} {tl : Mem} {c k : Nat} {P : PI} {Ga : Orc} {K : Kt MV} {j : Nat} {go : Mem -> Nat -> Prop}
theorem cW3 {m : Mem} : aJ7 P K go (rv .cont) m c = go m c := by kernel_rfl
theorem dR4 {m : Mem} : aJ7 P K go (rv .brk) m c = K n_ m c := by kernel_rfl
theorem dK7 {v : Int} {m : Mem} : aJ7 P K go (rv (.ret v)) m c = K (rv (.ret v)) m c := by kernel_rfl
theorem dI6 {v : Int} {m : Mem} : aJ7 P K go (rv (.thr v)) m c = K (rv (.thr v)) m c := by kernel_rfl
theorem aJ8 {z' : Nat} (h : z <= z') {x : Rs} {A : En -> Prop} (q : exX (Af g z K) A x e) (R : Rw g z' e w tl c) (hA : A e -> go (FW w tl) c) : aJ7 P K go (rv x) (FW w tl) c := by
 cases x with
 | next => exact hA q
 | cont => exact (cW3 (P := P)).mpr (hA q)
 | brk => exact (dR4 (P := P)).mpr (q _ _ _ (R.le h))
 | ret v => exact (dK7 (P := P)).mpr (q _ _ _ (R.le h))
 | thr v => exact (dI6 (P := P)).mpr (q _ _ _ (R.le h))
theorem th_thr {v : Int} {A B : Mem -> Nat -> Prop} {m : Mem} : thrK (rv (.thr v)) A B m c = A m c := by kernel_rfl
theorem th_ret {v : Int} {A B : Mem -> Nat -> Prop} {m : Mem} : thrK (rv (.ret v)) A B m c = B m c := by kernel_rfl
theorem th_brk {A B : Mem -> Nat -> Prop} {m : Mem} : thrK (rv .brk) A B m c = B m c := by kernel_rfl
theorem th_cont {A B : Mem -> Nat -> Prop} {m : Mem} : thrK (rv .cont) A B m c = B m c := by kernel_rfl
theorem cD3 {x : Rs} {A : Mem -> Nat -> Prop} {m : Mem} (q : A m c) : thrK (rv x) A A m c := by
 cases x with
 | next => exact q
 | cont => exact th_cont.mpr q
 | brk => exact th_brk.mpr q
 | ret v => exact th_ret.mpr q
 | thr v => exact th_thr.mpr q
theorem bR5 {t : T} (h : isS t = true) : isNone (.p (enc t)) = false := by
 cases t with
 | nil => exact nomatch h
 | cons a r => exact nomatch h
 | ex x => cases x <;> rfl
 | jump j => cases j <;> rfl
 | _ => rfl
variable (hG : Oex g k Ga)
include hG
theorem cL0 {l : T} {x : Rs} (hd : dep l <= k) (hs : l = .nil ∨ isS l = true) (ho : Ok l) (R : Rw g z e w tl c) (q : X g.tp g.sp l (fun y => Af g z K (finR x y)) e) : endT (Gj P Ga (j + 1)) (enc l) K (rv x) (FW w tl) c := by
 refine hs.elim (fun z => ?_) fun hs => ?_
 ·subst z; exact q _ _ _ R
 ·show br (!isNone (.p (enc l))) _ _
  rw [bR5 hs]
  refine exG hG hd hs ho R q fun y e q w tl c R => ?_
  cases y <;> exact q _ _ _ R
theorem bW9 {ev : Int} (hk : 1 <= k) (h : ev_ ev) (R : Rw g z e w tl c) (hg : 5 <= e.gas) (q : Lk g z ({ e with gas := e.gas - 5 }.said ev) (fun _ => K n_) n_) : exK (Gj P Ga (j + 1)) (sX (.say ev)) K (FW w tl) c :=
 (g_ex (P := P) (j := j)).mpr (hG z (.ex (.say ev)) K e w tl c hk rfl h R ⟨hg, q⟩)
omit hG in
theorem Rw.gas (R : Rw g z e w tl c) {y : Nat} (h : y = e.gas) : Rw g z { e with gas := y } w tl c := h ▸ R
theorem cQ4 {t : Tst} {b : T} (hd : dep b <= k) (hs : isS b = true) (ho : Ok b) (i : Nat) : ∀ {e w tl c}, Rw g (z + 8) e w tl c -> tstX g.tp t e (lpX (X g.tp g.sp b) (fun e go => pay 13 e fun e => tstX g.tp t e go (Af g z K .next)) (Af g z K) i) (Af g z K .next) ->
  cT1 P (Gj P Ga (j + 5)) K (tst t) (enc b) i (FW w tl) c := by
 induction i with
 | zero => exact fun R q => aR6 (z := z) (R.use (m := 7) (nA _ _)) q (fun _ q => q.elim) fun e q => q
 | succ i ih => exact fun R q => aR6 (z := z) (R.use (m := 7) (nA _ _)) q (fun e q w tl c R => exG hG hd hs ho R q fun x e q w tl c R => aJ8 (nR _) q R fun q => (cS5 P (Gj P Ga (j + 5)) K c (tst t) (enc b) (rv x) i (FW w tl)).mpr (ih (R.pays 8 q.1 (by decide)) q.2)) fun e q => q
theorem dC5 {t : Tst} {b : T} (ht : t ≠ .non) (hd : dep b <= k) (hs : isS b = true) (ho : Ok b) (i : Nat) : ∀ {e w tl c}, Rw g z e w tl c -> lpX (X g.tp g.sp b) (fun e go => pay 13 e fun e => tstX g.tp t e go (Af g z K .next)) (Af g z K) (i + 1) e ->
  cN2 P (Gj P Ga (j + 5)) K (tst t) (enc b) i (FW w tl) c := by
 have ask : ∀ (go : Mem -> Nat -> Prop) (m : Mem) (c : Nat), askK (Gj P Ga (j + 5)) (tst t) K go m c -> Gj P Ga (j + 5) (V "") (V "_law_mean") [.obj 0, .p (tst t)] (fun v m c => cmpE v (i_ 0) (fun x m c => truK x (fun z m c => br z (K n_ m c) (go m c)) m c) m c) m c := fun go m c q => by
  cases t with
  | non => exact absurd rfl ht
  | _ => exact q
 induction i with
 | zero => exact fun R q => exG hG hd hs ho R q fun x e q w tl c R => aJ8 (nR _) q R fun q => ask _ _ _ (aR6 (z := z) (R.pays 1 q.1 (by decide)) q.2 (fun _ q => q.elim) fun e q => q)
 | succ i ih => exact fun R q => exG hG hd hs ho R q fun x e q w tl c R => aJ8 (nR _) q R fun q => ask _ _ _ (aR6 (z := z) (R.pays 1 q.1 (by decide)) q.2 (fun e q w tl c R => (dF5 P (Gj P Ga (j + 5)) K c (tst t) (enc b) (rv x) i (FW w tl)).mpr (ih R q)) fun e q => q)
theorem dU4 {t : Tst} {b : T} {e1 e2 e3 : Int} (hk : 1 <= k) (h2 : ev_ e2) (h3 : ev_ e3) (hd : dep b <= k) (hs : isS b = true) (ho : Ok b) (i : Nat) : ∀ {e w tl c}, Rw g (z + 1) e w tl c -> tstX g.tp t e (lpX (X g.tp g.sp b) (fun e go => pay 27 e fun e => tstX g.tp t ((e.said e2).said e3) go (Af g z K .next)) (Af g z K) i) (Af g z K .next) ->
  cR1 P (Gj P Ga (j + 5)) K (tst t) (enc b) (sX (.say e1)) (sX (.say e2)) (sX (.say e3)) i (FW w tl) c := by
 induction i with
 | zero => exact fun R q => aR6 (z := z) R q (fun _ q => q.elim) fun e q => q
 | succ i ih => exact fun R q => aR6 (z := z) R q (fun e q w tl c R => exG hG hd hs ho R q fun x e q w tl c R => aJ8 (nR _) q R fun q =>
   bW9 hG hk h2 R (nT (by decide) q.1) fun w tl c R => bW9 hG hk h3 R (Nat.le_sub_of_add_le (nT (by decide) q.1)) fun w tl c R =>
    (dP3 P (Gj P Ga (j + 5)) K c (tst t) (enc b) (sX (.say e1)) (sX (.say e2)) (sX (.say e3)) (rv x) i (FW w tl)).mpr
     (ih ((((R.pays 1 (n := 17) (by have := q.1; show 17 <= e.gas - 5 - 5; lia) (by decide)).gas (y := e.gas - 27) (by show e.gas - 27 = e.gas - 5 - 5 - 17; lia)))) q.2)) fun e q => q
end
section
variable {g : Sg} {z : Nat} {e : En} {w : FD} {tl : Mem} {c k : Nat} {P : PI} {Ga : Orc} {K : Kt MV} {j : Nat}
section
variable {go : Loc -> Mem -> Nat -> Prop} {l : MV -> Loc}
theorem cO1 {m : Mem} : aW8 P (turn (blkK K) go) l (rv .cont) m c = go (l (rv .cont)) m c := by kernel_rfl
theorem dG7 {m : Mem} : aW8 P (turn (blkK K) go) l (rv .brk) m c = K n_ m c := by kernel_rfl
theorem dK6 {v : Int} {m : Mem} : aW8 P (turn (blkK K) go) l (rv (.ret v)) m c = K (rv (.ret v)) m c := by kernel_rfl
theorem dF1 {v : Int} {m : Mem} : aW8 P (turn (blkK K) go) l (rv (.thr v)) m c = K (rv (.thr v)) m c := by kernel_rfl
theorem cR2 {x : Rs} {A : En -> Prop} (q : exX (Af g z K) A x e) (R : Rw g z e w tl c) (hA : A e -> go (l (rv x)) (FW w tl) c) : aW8 P (turn (blkK K) go) l (rv x) (FW w tl) c := by
 cases x with
 | next => exact hA q
 | cont => exact (cO1 (P := P)).mpr (hA q)
 | brk => exact (dG7 (P := P)).mpr (q _ _ _ R)
 | ret v => exact (dK6 (P := P)).mpr (q _ _ _ R)
 | thr v => exact (dF1 (P := P)).mpr (q _ _ _ R)
end
variable (hG : Oex g k Ga)
include hG
theorem dY5 {lid : Nat} {x t : PV} {v : MV} {b : T} (hd : dep b <= k) (hs : isS b = true) (ho : Ok b) (l : List Int) : ∀ {e w tl c loc}, (loc = locA (sA lid x (enc b) t) v [] ∨ ∃ y r, loc = locA (sA lid x (enc b) t) v [(V "item", y), (V "end", r)]) -> Rw g z e w tl c -> arX (X g.tp g.sp b) lid (Af g z K) l e ->
  forL (arF P (Gj P Ga (j + 5))) (blkK K) ((l.map PV.int).map .p) loc (FW w tl) c := by
 induction l with
 | nil => exact fun _ R q => q _ _ _ R
 | cons i l ih =>
  intro e w tl c loc hl R q
  have go : putK lid (.p (pi i)) (exK (Gj P Ga (j + 5)) (enc b) (aW8 P (turn (blkK K) (forL (arF P (Gj P Ga (j + 5))) (blkK K) ((l.map PV.int).map .p))) fun r => locA (sA lid x (enc b) t) v [(V "item", .p (pi i)), (V "end", r)])) (FW w tl) c :=
   bI7 (z := z) (R.pays 1 q.1 (by decide)) fun w tl c R => exG hG hd hs ho R q.2 fun y e q w tl c R => cR2 q R fun q => ih (.inr ⟨_, _, rfl⟩) R q
  refine hl.elim (fun z => ?_) fun z => ex2 z fun y r z => ?_ <;> subst z
  ·exact (cS1 P (Gj P Ga (j + 5)) c x (enc b) t lid v (.p (pi i)) _ (FW w tl)).mpr go
  ·exact (cS8 P (Gj P Ga (j + 5)) c x (enc b) t lid v (.p (pi i)) y r _ (FW w tl)).mpr go
theorem dD8 {lid each idx : Nat} {x t d : PV} {gg kk st nw : Int} {b : T} {s : Spec} (hst : st = 4 ∨ st = 6) (hnw : nw = 5 ∨ nw = 7) (hd : dep b <= k) (hs : isS b = true) (ho : Ok b) (hsp : g.sp[idx]? = some s) (n : Nat) : ∀ {i e w tl c loc}, (loc = locR (sP lid x (enc b) t gg st nw d kk) (.p (pn each)) [] ∨ ∃ r, loc = locR (sP lid x (enc b) t gg st nw d kk) (.p (pn each)) [(V "end", r)]) -> s.count = n + i -> Rw g (z + 8) e w tl c -> rdX (X g.tp g.sp b) lid each idx (Af g z K) n i e ->
  rdW P (Gj P Ga (j + 5)) (n + 1) (blkK K) loc (FW w tl) c := by
 have spi : g.sp.length <= 1000 -> idx < 1000000 := fun q => zzF ((zzA.mp hsp).1) (nT q (by decide))
 have eai : ∀ {y e w tl c} {r : Nat × Nat}, Rw g y e w tl c -> e.live[each]? = some r -> each < 1000000 := fun R q => zzF ((zzA.mp q).1) (nT (nT (nT (nA _ _) (nA _ _)) R.ac.2.2) (by decide))
 induction n with
 | zero =>
  intro i e w tl c loc hl hn R q
  have go : cA6 P (Gj P Ga (j + 5)) K lid st nw (enc b) (.p (pn each)) (fun r => rdW P (Gj P Ga (j + 5)) 0 (blkK K) (locR (sP lid x (enc b) t gg st nw d kk) (.p (pn each)) [(V "end", r)])) (FW w tl) c :=
   (g_ca (P := P) (j := j + 4)).mpr <| bA7 (z := z + 7) R q.1 hsp (eai R q.1) (spi R.spl) hst fun w tl c R => by
    rw [decide_eq_false (by lia : ¬i + 1 <= s.count)]
    exact q.2 _ _ _ (R.use (nA _ _))
  refine hl.elim (fun z => ?_) fun z => ex1 z fun r z => ?_ <;> subst z
  ·exact (bH1 P (Gj P Ga (j + 5)) K c lid x (enc b) t gg st nw d kk (.p (pn each)) 0 (FW w tl)).mpr go
  ·exact (bF6 P (Gj P Ga (j + 5)) K c lid x (enc b) t gg st nw d kk (.p (pn each)) r 0 (FW w tl)).mpr go
 | succ n ih =>
  intro i e w tl c loc hl hn R q
  have go : cA6 P (Gj P Ga (j + 5)) K lid st nw (enc b) (.p (pn each)) (fun r => rdW P (Gj P Ga (j + 5)) (n + 1) (blkK K) (locR (sP lid x (enc b) t gg st nw d kk) (.p (pn each)) [(V "end", r)])) (FW w tl) c :=
   (g_ca (P := P) (j := j + 4)).mpr <| bA7 (z := z + 15) (R.pays 8 q.2.1 (by decide)) q.1 hsp (eai R q.1) (spi R.spl) hst fun w tl c R => by
    rw [decide_eq_true (by lia : i + 1 <= s.count)]
    have hl : ({ e.ev (V "step") each with live := e.live.set each (idx, i + 1) } : En).live[each]? = some (idx, i + 1) := zze (zzA.mp q.1).1
    refine (g_ca (P := P) (j := j + 4)).mpr (cH (z := z + 14) R hl (eai R hl) ?_ hnw fun w tl c R => bI7 (z := z + 13) R fun w tl c R => ?_)
    ·exact zzG (by lia) (R.cnts s (zzL hsp))
    ·exact exG (z := z + 8) hG hd hs ho (R.use (m := 5) (nA _ _)) q.2.2 fun y e q w tl c R => aJ8 (nA z 8) q R fun q => ih (.inr ⟨_, rfl⟩) (by lia) R q
  refine hl.elim (fun z => ?_) fun z => ex1 z fun r z => ?_ <;> subst z
  ·exact (bH1 P (Gj P Ga (j + 5)) K c lid x (enc b) t gg st nw d kk (.p (pn each)) (n + 1) (FW w tl)).mpr go
  ·exact (bF6 P (Gj P Ga (j + 5)) K c lid x (enc b) t gg st nw d kk (.p (pn each)) r (n + 1) (FW w tl)).mpr go
end
section
variable {g : Sg} {z : Nat} {e : En} {w : FD} {tl : Mem} {c k : Nat} {P : PI} {Ga : Orc} {K : Kt MV} {j : Nat}
theorem cJ2 {idx : Nat} {s : Spec} {S' : PV} {gg : Int} {Kr : MV -> MV -> Kt MV} {A : En -> Prop} (hg : gg = 2 ∨ gg = 3) (hsp : g.sp[idx]? = some s) (R : Rw g (z + 16) e w tl c)
  (q : match s.null with | true => Af g z K (.thr 1) (e.emit (pi (1100 + idx)) (pi 0)) | false => match s.nullE with | true => Af g z K (.thr 1) ((e.emit (pi (1100 + idx)) (pn idx)).ev (V "get") idx) | false => A { (e.emit (pi (1100 + idx)) (pn idx)).ev (V "get") idx with live := e.live ++ [(idx, 0)] })
  (hr : ∀ w tl c, Rw g (z + 12) { (e.emit (pi (1100 + idx)) (pn idx)).ev (V "get") idx with live := e.live ++ [(idx, 0)] } w tl c -> A { (e.emit (pi (1100 + idx)) (pn idx)).ev (V "get") idx with live := e.live ++ [(idx, 0)] } ->
   Gj P Ga (j + 7) (V "") (V "_law_rounds") [.obj 0, .p S', .p (pn e.live.length)] (Kr (.p (pn idx)) (.p (pn e.live.length))) (FW w tl) c) :
  meK (Gj P Ga (j + 7)) (aA3 17 (1100 + idx)) (fun v m c => br (isNone v) (K (.p thr1) m c) (caK (Gj P Ga (j + 7)) gg v (fun each m c => br (!isNone each) (Gj P Ga (j + 7) (V "") (V "_law_rounds") [.obj 0, .p S', each] (Kr v each) m c) (K (.p thr1) m c)) m c)) (FW w tl) c := by
 have hi : idx < 1000000 := zzF ((zzA.mp hsp).1) (nT R.spl (by decide))
 refine (g_me (P := P) (j := j + 6)).mpr (cZ8 (n := j + 2) (z := z + 15) R hsp hi (fun h1 w tl c R => ?_) fun h1 w tl c R => ?_) <;> rw [h1] at q
 ·exact q _ _ _ (R.use (nA _ _))
 ·refine (g_ca (P := P) (j := j + 6)).mpr (cL (n := j + 2) (z := z + 13) R hsp hi hg (fun h2 w tl c R => ?_) fun h2 w tl c R => ?_) <;> rw [h2] at q
  ·exact q _ _ _ (R.use (nA _ _))
  ·exact hr _ _ _ (R.use (m := 1) (nA _ _)) q
theorem dZ5 {idx each : Nat} {s : Spec} {r : MV} {mid : Int} (hsp : g.sp[idx]? = some s) (R : Rw g z e w tl c) (q1 : s.disp = true -> caK (Gj P Ga (j + 7)) mid (.p (pn each)) (fun _ => K r) (FW w tl) c) (q2 : s.disp = false -> K r (FW w tl) c) : disK (Gj P Ga (j + 7)) (.p (pn idx)) (.p (pn each)) r mid K (FW w tl) c := by
 have hi : idx < 1000000 := zzF ((zzA.mp hsp).1) (nT R.spl (by decide))
 refine (aW1 (w := w) (tl := tl)).mpr (aH1 (i := 4) (n := idx) (x := aC1 s) rfl (by rw [R.specs, zza, hsp]; rfl) hi ?_)
 show br s.disp _ _
 cases h : s.disp with
 | true => exact q1 h
 | false => exact q2 h
variable (hG : Oex g k Ga)
include hG
theorem dP8 {lid sort idx : Nat} {wide : Bool} {b : T} (hd : dep b <= k) (hs : isS b = true) (ho : Ok b) (R : Rw g z e w tl c) (q : X g.tp g.sp (.pat lid wide sort idx b) (Af g z K) e) :
  run P HL (Gj P Ga (j + 7)) 0 (V "_law_over_pattern") [.obj 0, .p (enc (.pat lid wide sort idx b))] K (FW w tl) c := by
 have R := R.pays 16 q.1 (by decide)
 refine aB q.2 fun s hsp q => ?_
 have q := q.2
 have hg : two (isC sort) 2 3 = 2 ∨ two (isC sort) 2 3 = 3 := by cases isC sort <;> simp [two]
 have hst : two (isC sort) 4 6 = 4 ∨ two (isC sort) 4 6 = 6 := by cases isC sort <;> simp [two]
 have hnw : two (isC sort) 5 7 = 5 ∨ two (isC sort) 5 7 = 7 := by cases isC sort <;> simp [two]
 have hm : dMid sort = 8 ∨ dMid sort = 9 ∨ dMid sort = 10 ∨ dMid sort = 11 := by unfold dMid; split <;> simp
 show run P HL (Gj P Ga (j + 7)) 0 (V "_law_over_pattern") [.obj 0, .p (sP lid (aA3 17 (1100 + idx)) (enc b) (aF4 wide aH9) (two (isC sort) 2 3) (two (isC sort) 4 6) (two (isC sort) 5 7) (aI8 sort) (aA7 sort))] K (FW w tl) c
 revert q
 unfold aI8
 cases hasD sort with
 | false =>
  refine fun q => (dR2 P (Gj P Ga (j + 7)) K c lid (aA3 17 (1100 + idx)) (enc b) (aF4 wide aH9) _ _ _ _ (FW w tl)).mpr (cJ2 (Kr := fun _ _ => K) hg hsp R q fun w tl c R q => ?_)
  refine (g_ro (P := P) (j := j + 6)).mpr ((bH6 P (Gj P Ga (j + 6)) K c lid (aA3 17 (1100 + idx)) (enc b) (aF4 wide aH9) _ _ _ (.tup []) (aA7 sort) (.p (pn e.live.length)) (FW w tl)).mpr ⟨s.count + 1, ?_⟩)
  exact dD8 (z := z) (j := j + 1) hG hst hnw hd hs ho hsp s.count (.inl rfl) rfl (R.use (m := 4) (nA _ _)) (aK (b := X g.tp g.sp b) (aB5 b) (fun x e' q => q.2) _ _ _ q)
 | true =>
  refine fun q => (dH5 P (Gj P Ga (j + 7)) K c lid (aA3 17 (1100 + idx)) (enc b) (aF4 wide aH9) _ _ _ (bN2 sort) (dMid sort) _ (FW w tl)).mpr (cJ2 (Kr := fun v each r => disK (Gj P Ga (j + 7)) v each r (dMid sort) K) hg hsp R q fun w tl c R q => ?_)
  refine (g_ro (P := P) (j := j + 6)).mpr ((bH6 P (Gj P Ga (j + 6)) _ c lid (aA3 17 (1100 + idx)) (enc b) (aF4 wide aH9) _ _ _ (mRef (bN2 sort) (dMid sort)) (aA7 sort) (.p (pn e.live.length)) (FW w tl)).mpr ⟨s.count + 1, ?_⟩)
  refine dD8 (z := z + 4) (j := j + 1) hG hst hnw hd hs ho hsp s.count (.inl rfl) rfl R (aK (b := X g.tp g.sp b) (aB5 b) (fun x e' q w tl c R => ?_) _ _ _ q)
  have q := q.2
  refine dZ5 hsp R (fun h => ?_) fun h => ?_ <;> revert q <;> dsimp only [Bool.true_and] <;> rw [h]
  ·exact fun q => (g_ca (P := P) (j := j + 6)).mpr (bC7 (n := j + 2) (z := z + 3) R hm fun w tl c R => q _ _ _ (R.use (nA _ _)))
  ·exact fun q => q _ _ _ (R.use (nA _ _))
end
section
variable {g : Sg} {z : Nat} {e : En} {w : FD} {tl : Mem} {c k : Nat} {P : PI} {Ga : Orc} {K : Kt MV} {j : Nat}
theorem tag_ret {v : Int} {m : Mem} : tagK (V "ret") K (i_ v) m c = K (rv (.ret v)) m c := by kernel_rfl
theorem tag_thr {v : Int} {m : Mem} : tagK (V "thr") K (i_ v) m c = K (rv (.thr v)) m c := by kernel_rfl
theorem get_thr {v : Int} {K : Kt MV} {m : Mem} : getI (rv (.thr v)) (i_ 1) K m c = K (i_ v) m c := by kernel_rfl
theorem bT3 {t : T} (h : isS t = true) : 1 <= dep t := by
 cases t with
 | nil => exact nomatch h
 | cons a r => exact nomatch h
 | _ => first | exact zzd (zzN _) | exact nR 1
theorem mU (w : Nat) : mUse w = 8 ∨ mUse w = 9 ∨ mUse w = 10 ∨ mUse w = 11 := by unfold mUse; split <;> simp
variable (hG : Oex g k Ga)
include hG
theorem bM4 {t : T} (hd : dep t <= k + 1) (hs : isS t = true) (ho : Ok t) (R : Rw g z e w tl c) (q : X g.tp g.sp t (Af g z K) e) :
  run P HL (Gj P Ga (j + 8)) 0 xEx [.obj 0, .p (enc t)] K (FW w tl) c := by
 cases t with
 | nil => exact nomatch hs
 | cons a r => exact nomatch hs
 | blk l => exact (cW9 P (Gj P Ga (j + 8)) K c (encL l) (FW w tl)).mpr (bZ4 (j := j + 7) hG (zzK hd) ho.1 ho.2 (.inl rfl) R q)
 | ex x =>
  cases x with
  | say ev =>
   have R := R.pays 2 q.1 (by decide)
   refine (bX5 P (Gj P Ga (j + 8)) K c (aA3 7 ev) (FW w tl)).mpr ((g_me (P := P) (j := j + 7)).mpr (bO6 (z := z + 1) (n := j + 3) R (.inl ho) fun w tl c R => ?_))
   exact q.2 _ _ _ (R.use (nA _ _))
  | hold r =>
   have R := R.pays 2 q.1 (by decide)
   refine (bX5 P (Gj P Ga (j + 8)) K c (eAsg 21 (eLoc 21 1) (bI1 r)) (FW w tl)).mpr ((g_me (P := P) (j := j + 7)).mpr (dA (z := z + 1) (n := j + 3) R ho fun w tl c R => ?_))
   exact q.2 _ _ _ (R.use (nA _ _))
  | shown lid kind ev =>
   have R := R.pays 2 q.1 (by decide)
   refine (bX5 P (Gj P Ga (j + 8)) K c (eAsg kind (aA3 kind ev) (eLoc kind lid)) (FW w tl)).mpr ((g_me (P := P) (j := j + 7)).mpr ?_)
   exact aB q.2 fun v hv q => cC1 (z := z + 1) (n := j + 3) R hv fun w tl c R => q _ _ _ (R.use (nA _ _))
 | jump y =>
  cases y with
  | brk => exact (dY7 P (Gj P Ga (j + 8)) K c (FW w tl)).mpr (q.2 _ _ _ ((R.pays 1 q.1 (by decide)).use (nA _ _)))
  | cont => exact (dM9 P (Gj P Ga (j + 8)) K c (FW w tl)).mpr (q.2 _ _ _ ((R.pays 1 q.1 (by decide)).use (nA _ _)))
  | ret ev =>
   have R := R.pays 2 q.1 (by decide)
   refine (dY0 P (Gj P Ga (j + 8)) K c (aA3 7 ev) (FW w tl)).mpr ((g_me (P := P) (j := j + 7)).mpr (bO6 (z := z + 1) (n := j + 3) R (.inl ho) fun w tl c R => tag_ret.mpr ?_))
   exact q.2 _ _ _ (R.use (nA _ _))
  | thr r =>
   have R := R.pays 2 q.1 (by decide)
   refine (eF7 P (Gj P Ga (j + 8)) K c (aA3 12 (1070 + r)) (FW w tl)).mpr ((g_me (P := P) (j := j + 7)).mpr (bO6 (z := z + 1) (n := j + 3) R (.inr ⟨by lia, by have : r < 10 := ho; lia⟩) fun w tl c R => tag_thr.mpr ?_))
   exact q.2 _ _ _ (R.use (nA _ _))
 | ask y n =>
  have R := R.pays 4 q.1 (by decide)
  have hd := zzW.mp (zzK hd)
  refine (eF1 P (Gj P Ga (j + 8)) K c eAsk (enc y) (enc n) (FW w tl)).mpr ((g_me (P := P) (j := j + 7)).mpr (cH2 (z := z + 3) (n := j + 3) R fun w tl c R => ?_))
  have R := R.use (m := 3) (nA _ _)
  have q := q.2
  revert q
  show (match ans g.tp _ with | true => _ | false => _) -> _
  show (match ans g.tp e with | true => _ | false => _) -> cmpE (i_ (b2i (ans g.tp e))) _ _ _ _
  cases ans g.tp e with
  | true => exact fun q => exG (j := j + 7) hG hd.1 ho.1 ho.2.2.1 R q fun _ _ q => q
  | false =>
   refine fun q => ho.2.1.elim (fun z => ?_) fun hs => ?_
   ·subst z; exact q _ _ _ R
   ·show br (isNone (.p (enc n))) _ _
    rw [bR5 hs]
    exact exG (j := j + 7) hG hd.2 hs ho.2.2.2 R q fun _ _ q => q
 | whil t b =>
  refine (dQ0 P (Gj P Ga (j + 8)) K c (tst t) (enc b) (FW w tl)).mpr (ex1 q.2 fun i q2 => ⟨i + 1, ?_⟩)
  exact (cT P (Gj P Ga (j + 8)) K c (tst t) (enc b) i (FW w tl)).mpr (cQ4 (j := j + 3) hG (zzK hd) ho.1 ho.2 i (R.pays 8 q.1 (by decide)) q2)
 | dow t b =>
  refine (eC2 P (Gj P Ga (j + 8)) K c (tst t) (enc b) (FW w tl)).mpr (ex1 q.2 fun i q2 => ⟨i, ?_⟩)
  cases i with
  | zero => exact q2.elim
  | succ i => exact (dC P (Gj P Ga (j + 8)) K c (tst t) (enc b) i (FW w tl)).mpr (dC5 (j := j + 3) hG ho.1 (zzK hd) ho.2.1 ho.2.2 i ((R.pays 1 q.1 (by decide)).use (nA _ _)) q2)
 | for_ e1 t e2 e3 b =>
  have hg : 5 <= e.gas := nT (by decide) q.1
  have hk : 1 <= k := nT (bT3 ho.1) (zzc (zzK hd))
  refine (eI1 P (Gj P Ga (j + 8)) K c (tst t) (enc b) (sX (.say e1)) (sX (.say e2)) (sX (.say e3)) (FW w tl)).mpr (bW9 (j := j + 7) hG hk ho.2.1 R hg fun w tl c R => ?_)
  refine ex1 q.2 fun i q2 => ⟨i + 1, (dD1 P (Gj P Ga (j + 8)) K c (tst t) (enc b) (sX (.say e1)) (sX (.say e2)) (sX (.say e3)) i (FW w tl)).mpr ?_⟩
  exact dU4 (j := j + 3) hG hk ho.2.2.1 ho.2.2.2.1 (zzc (zzK hd)) ho.1 ho.2.2.2.2 i ((R.pays 1 (n := 21) (by have := q.1; show 21 <= e.gas - 5; lia) (by decide)).gas (y := e.gas - 26) (by show e.gas - 26 = e.gas - 5 - 21; lia)) q2
 | try_ lid b h l =>
  have hb : dep b <= k := (zzW.mp (zzK hd)).1
  have hd2 : dep h <= k /\ dep l <= k := zzW.mp (zzW.mp (zzK hd)).2
  have R := R.pays 8 q.1 (by decide)
  have q := q.2
  cases lid with
  | zero => exact (dT9 P (Gj P Ga (j + 8)) K c (enc b) (enc l) (FW w tl)).mpr (exG (j := j + 7) hG hb ho.1 ho.2.2.2.1 (R.use (nA _ _)) q fun x e q w tl c R => cD3 (cL0 (j := j + 7) hG hd2.2 ho.2.2.1 ho.2.2.2.2.2 R q))
  | succ lid =>
   refine (dL6 P (Gj P Ga (j + 8)) K c (enc b) (enc h) (enc l) ((lid + 1 : Nat) : Int) (FW w tl)).mpr (exG (z := z + 1) (j := j + 7) hG hb ho.1 ho.2.2.2.1 (R.use (m := 7) (nA _ _)) q fun x e q w tl c R => ?_)
   have fin : ∀ {x e w tl c}, Rw g z e w tl c -> X g.tp g.sp l (fun y => Af g z K (finR x y)) e -> endT (Gj P Ga (j + 8)) (enc l) K (rv x) (FW w tl) c := fun R q => cL0 (j := j + 7) hG hd2.2 ho.2.2.1 ho.2.2.2.2.2 R q
   have R' := R.use (m := 1) (nA _ _)
   cases x with
   | next => exact fin R' q
   | brk => exact th_brk.mpr (fin R' q)
   | cont => exact th_cont.mpr (fin R' q)
   | ret v => exact th_ret.mpr (fin R' q)
   | thr v => exact th_thr.mpr (get_thr.mpr (bI7 (z := z) R fun w tl c R => exG (j := j + 7) hG hd2.1 (ho.2.1.elim (fun z => nomatch z) id) ho.2.2.2.2.1 R q fun x e q w tl c R => fin R q))
 | usg u lid b =>
  have hd := zzK hd
  refine (cV6 P (Gj P Ga (j + 8)) K c (aA3 (kUse u) (fUse u)) (enc b) (eLoc (kUse u) lid) lid 0 (mUse u) (kUse u) (vUse u) (FW w tl)).mpr ((g_me (P := P) (j := j + 7)).mpr (dF9 (z := z + 7) (n := j + 3) (R.pays 8 q.1 (by decide)) fun w tl c R => bI7 (z := z + 6) R fun w tl c R => exG (z := z + 6) (j := j + 7) hG hd ho.1 ho.2 R q.2 fun x e q w tl c R => ?_))
  have q := q.2
  revert q
  show Af g z K x (match useV u with | .none => e | _ => e.ev (V "over") 1090) -> br (!isNone (.p (useV u))) _ _
  by_cases h : u = 1
  ·rw [show useV u = .none by rw [h]; rfl]
   exact fun q => q _ _ _ (R.use (nA _ _))
  ·have : useV u = pi 1090 := by unfold useV; split <;> first | rfl | exact absurd rfl h
   rw [this]
   exact fun q => (g_ca (P := P) (j := j + 7)).mpr (bC7 (n := j + 3) (z := z + 5) (a := 1090) R (mU u) fun w tl c R => q _ _ _ (R.use (nA _ _)))
 | arr lid wide src b =>
  have hd := zzK hd
  have R := R.pays 8 q.1 (by decide)
  refine (eC0 P (Gj P Ga (j + 8)) K c (eSrc src) (enc b) (aF4 wide aH9) lid (FW w tl)).mpr ((g_ar (P := P) (j := j + 7)).mpr ((dO P (Gj P Ga (j + 7)) K c (eSrc src) (enc b) (aF4 wide aH9) lid (FW w tl)).mpr ((g_me (P := P) (j := j + 6)).mpr ?_)))
  have fin : ∀ {a : Option (List Int)} {e w tl c}, Rw g (z + 7) e w tl c -> (match a with | none => Af g z K (.thr 1) e | some l => arX (X g.tp g.sp b) lid (Af g z K) l e) ->
    br (isNone (.p (arrV a))) (K (.p thr1) (FW w tl) c) (forV (arF P (Gj P Ga (j + 7))) (.p (arrV a)) (locA (sA lid (eSrc src) (enc b) (aF4 wide aH9)) (.p (arrV a)) []) (blkK K) (FW w tl) c) := fun {a e w tl c} R q => by
   cases a with
   | none => exact q _ _ _ (R.use (nA _ _))
   | some l => exact dY5 (j := j + 2) hG hd ho.1 ho.2.2 l (.inl rfl) (R.use (nA _ _)) q
  have q := q.2
  cases src with
  | none => exact ex1 q fun a q => dP7 (n := j + 2) R q.1 (fin (R.use (m := 1) (nA _ _)) q.2.2)
  | some r => exact dU2 (z := z + 7) (n := j + 2) R (ho.2.1 r rfl) fun w tl c R => fin (a := rowL r) R q
 | pat lid wide sort idx b =>
  exact (dW P (Gj P Ga (j + 8)) K c lid (aA3 17 (1100 + idx)) (enc b) (aF4 wide aH9) (two (isC sort) 2 3) (two (isC sort) 4 6) (two (isC sort) 5 7) (aI8 sort) (aA7 sort) (FW w tl)).mpr ((g_pa (P := P) (j := j + 7)).mpr (dP8 (j := j) hG (zzK hd) ho.1 ho.2 R q))
end
section
variable {g : Sg} {z : Nat} {e : En} {w : FD} {tl : Mem} {c k d n : Nat} {P : PI} {G : Orc} {K : Kt MV} {C : Cx} {N : Fns} {H : How}
theorem aH0 (S : StaF C (ext P) N) (hG : Snd C N d G) (hK : Bd K) {f : Str} {args : List MV} {m : Mem} (e : run P H G n f args K m c) : c <= bigN /\ Good C N (d + n + 1) (V "") f args K m c :=
 aB (by unfold run at e; exact e) fun fi hf e => aZ S (aR9 S hG) hf hK e
noncomputable def GaE (g : Sg) (k : Nat) : Orc := fun x f args K m c => x = V "" /\ f = xEx /\ ∃ z t e w tl, dep t <= k /\ isS t = true /\ Ok t /\ args = [.obj 0, .p (enc t)] /\ m = FW w tl /\ Rw g z e w tl c /\ X g.tp g.sp t (Af g z K) e
theorem gaE : Oex g k (GaE g k) := fun z t K e w tl c h1 h2 h3 R q => ⟨rfl, rfl, z, t, e, w, tl, h1, h2, h3, rfl, rfl, R, q⟩
theorem cK6 (S : StaF C (ext P) N) (hG : Snd C N d G) {j : Nat} : Snd C N (d + j) (Gj P G j) := by unfold Gj; exact aR9 S hG
theorem bY8 (S : StaF C (ext P) N) : Snd C N (9 * k) (GaE g k) := by
 induction k with
 | zero => exact fun x f args K m c hK q => ex3 q.2.2 fun z t e q => ex2 q fun w tl q => absurd (nT (bT3 q.2.1) q.1) (by decide)
 | succ k ih =>
  intro x f args K m c hK q
  obtain ⟨rfl, rfl, q⟩ := q
  refine ex3 q fun z t e q => ex2 q fun w tl q => ?_
  obtain ⟨h1, h2, h3, rfl, rfl, R, q⟩ := q
  exact aH0 S (cK6 S ih (j := 8)) hK (bM4 (j := 0) gaE h1 h2 h3 R q)
end
section
noncomputable def HF : How where
 stop c f := c == V "" && (f == V "_law_step")
 gc _ := false
 fz _ := false
variable (P : PI) (G : Orc) (K : Kt MV) (c : Nat)
noncomputable abbrev xFl : Str := V "_law_flow"
noncomputable abbrev xSt : Str := V "_law_step"
noncomputable def locM (st mk : MV) (r : Loc) : Loc := (V "env", .obj 0) :: (V "stmts", st) :: (V "marks", mk) :: r
noncomputable def mkB : MV -> Loc -> PT (Flw × Loc) := forB (ext P) HF.fz (inl (ext P) HF G 0) (stA 236 1) (scA 236)
noncomputable def aQ0 (n : Nat) (K : Kt (Flw × Loc)) : Loc -> Mem -> Nat -> Prop := aL9 (fun loc => evT (ext P) HF.fz (inl (ext P) HF G 0) (exS (stA 236 3)) (scA 236) loc (evE (ext P) HF.fz (inl (ext P) HF G 0) (exS (stA 236 3)) (scA 236) loc)) (evSs (ext P) HF.fz (inl (ext P) HF G 0) (aL1 (stA 236 3)) (scA 236)) K n
noncomputable def mkK (K : Kt MV) : Kt (Flw × Loc) := fun x m c => match x.1 with
 | .next => ∃ n, aQ0 P G n (blkK K) (setL (V "at") (i_ 0) x.2) m c
 | .brk => False
 | .cont => False
 | .ret v => K v m c
theorem dR7 (st : MV) (m : Mem) : run P HF G 0 xFl [.obj 0, st] K m c = aP st (fun v => aX8 "range" v (fun r => forV (mkB P G) r (locM st (.obj m.length) []) (mkK P G K))) (m ++ [.dict []]) c := by kernel_rfl
noncomputable def mk1 (st mk v : MV) (K : Kt (Flw × Loc)) (m : Mem) (c : Nat) : Prop := getI st v (fun s => getI s (i_ 0) (fun a => cmpE a (i_ 20) (fun x => truK x (fun b m c => br b (getI st v (fun s => getI s (i_ 1) (fun l => setI mk l v (fun _ => K (.next, locM st mk [(V "place", v)])))) m c) (K (.next, locM st mk [(V "place", v)]) m c))))) m c
theorem eA1 (st mk v : MV) (K : Kt (Flw × Loc)) (m : Mem) : mkB P G v (locM st mk []) K m c = mk1 st mk v K m c := by kernel_rfl
theorem dX2 (st mk v u : MV) (K : Kt (Flw × Loc)) (m : Mem) : mkB P G v (locM st mk [(V "place", u)]) K m c = mk1 st mk v K m c := by kernel_rfl
noncomputable def locT (st mk pl : MV) (at_ : Nat) (r : Loc) : Loc := locM st mk ((V "place", pl) :: (V "at", i_ at_) :: r)
noncomputable abbrev gow (l : Nat) : MV := .p (.tup [.str (V "go"), pn l])
noncomputable def endG (mk : MV) (K : Kt MV) (go : Mem -> Nat -> Prop) (jump : MV -> Mem -> Nat -> Prop) (r : MV) (m : Mem) (c : Nat) : Prop :=
 br (!isNone r) (getI r (i_ 0) (fun a => aG1 (ext P) .NotEq a (.p (.str (V "go"))) (fun x => truK x (fun b m c => br b (K r m c) (getI r (i_ 1) (fun l => aG1 (ext P) .NotIn l mk (fun x => truK x (fun b m c => br b (K r m c) (getI r (i_ 1) (fun l => getI mk l jump) m c)))) m c)))) m c) (go m c)
noncomputable def aftG (K : MV -> Mem -> Nat -> Prop) (r : MV) (m : Mem) (c : Nat) : Prop :=
 getI (.obj 0) (.p (.str (V "thr"))) (fun t => aG1 (ext P) .NotEq t (i_ 0) (fun x => truK x (fun b m c => br b (getI (.obj 0) (.p (.str (V "thr"))) (fun t => tupV [.p (.str (V "thr")), t] (fun v => setI (.obj 0) (.p (.str (V "thr"))) (i_ 0) (fun _ => K v))) m c) (K r m c)))) m c
noncomputable def dG6 (st mk pl : MV) (at_ : Nat) (n : Nat) : Mem -> Nat -> Prop :=
 getI (.obj 0) (.p (.str (V "turns"))) (fun u => iop .Add u (i_ 1) (fun u => setI (.obj 0) (.p (.str (V "turns"))) u (fun _ => getI (.obj 0) (.p (.str (V "turns"))) (fun u => aG1 (ext P) .Gt u (i_ 20000) (fun x => truK x (fun b m c => br b (K (.p (.tup [.str (V "lost"), pi 0])) m c)
   (getI st (i_ at_) (fun s m c => G (V "") xSt [.obj 0, s] (aftG P fun r => endG P mk K (aQ0 P G n (blkK K) (locM st mk [(V "place", pl), (V "at", i_ (at_ + 1)), (V "end", r)])) (fun v => aQ0 P G n (blkK K) (locM st mk [(V "place", pl), (V "at", v), (V "end", r)])) r) m c) m c)))))))
noncomputable def cD (st mk pl : MV) (at_ : Nat) (n : Nat) (m : Mem) (c : Nat) : Prop :=
 aP st (fun l => aG1 (ext P) .Lt (i_ at_) l (fun x => truK x (fun b m c => br b (dG6 P G K st mk pl at_ n m c) (K n_ m c)))) m c
theorem dI5 (w : FD) (tl : Mem) (st mk pl : MV) (at_ n : Nat) : dG6 P G K st mk pl at_ n (FW w tl) c = br (decide (20000 < w.turns + 1)) (K (.p (.tup [.str (V "lost"), pi 0])) (FW { w with turns := w.turns + 1 } tl) (c + 1))
 (getI st (i_ at_) (fun s m c => G (V "") xSt [.obj 0, s] (aftG P fun r => endG P mk K (aQ0 P G n (blkK K) (locM st mk [(V "place", pl), (V "at", i_ (at_ + 1)), (V "end", r)])) (fun v => aQ0 P G n (blkK K) (locM st mk [(V "place", pl), (V "at", v), (V "end", r)])) r) m c) (FW { w with turns := w.turns + 1 } tl) (c + 1)) := by kernel_rfl
theorem bV0 (st mk pl : MV) (at_ : Nat) (n : Nat) (m : Mem) : aQ0 P G (n + 1) (blkK K) (locT st mk pl at_ []) m c = cD P G K st mk pl at_ n m c := by kernel_rfl
theorem bP2 (st mk pl r : MV) (at_ : Nat) (n : Nat) (m : Mem) : aQ0 P G (n + 1) (blkK K) (locT st mk pl at_ [(V "end", r)]) m c = cD P G K st mk pl at_ n m c := by kernel_rfl
theorem dG4 (mk : MV) (n : Nat) (m : Mem) : aQ0 P G (n + 1) (blkK K) (locM (.p (.tup [])) mk [(V "at", i_ 0)]) m c = K n_ m c := by kernel_rfl
theorem dS (w : FD) (tl : Mem) (K : MV -> Mem -> Nat -> Prop) (r : MV) : aftG P K r (FW { w with thr := 0 } tl) c = K r (FW { w with thr := 0 } tl) c := by kernel_rfl
theorem dC7 (w : FD) (tl : Mem) (K : MV -> Mem -> Nat -> Prop) (r : MV) : aftG P K r (FW { w with thr := 1 } tl) c = K (.p thr1) (FW { w with thr := 0 } tl) (c + 1) := by kernel_rfl
theorem dO6 (mk : MV) (go : Mem -> Nat -> Prop) (jump : MV -> Mem -> Nat -> Prop) (v : Int) (m : Mem) : endG P mk K go jump (rv (.ret v)) m c = K (rv (.ret v)) m c := by kernel_rfl
theorem cL4 (mk : MV) (go : Mem -> Nat -> Prop) (jump : MV -> Mem -> Nat -> Prop) (v : Int) (m : Mem) : endG P mk K go jump (rv (.thr v)) m c = K (rv (.thr v)) m c := by kernel_rfl
theorem cH5 (j l : Nat) (go : Mem -> Nat -> Prop) (jump : MV -> Mem -> Nat -> Prop) (w : FD) (tl : Mem) : endG P (.obj (j + 7)) K go jump (gow l) (FW w tl) c = atD tl[j]? fun es => chk (aA8 (pn l) es) (br (!(aA9 (pn l) es).isSome) (K (gow l) (FW w tl) c) (getI (.obj (j + 7)) (.p (pn l)) jump (FW w tl) c)) := by kernel_rfl
end
section
variable (n : Nat) (P : PI) (w : FD) (tl : Mem) (G : Orc) (K : Kt MV) (c : Nat)
noncomputable abbrev FD.z (w : FD) : FD := { w with thr := 0 }
noncomputable abbrev stp (s : PV) (K : Kt MV) (m : Mem) (c : Nat) : Prop := run P HX G (n + 8) xSt [.obj 0, .p s] K m c
noncomputable def putR (i : Int) (K : Kt MV) : Kt MV := fun r m c => getI (.obj 0) (.p (.str (V "thr"))) (fun t => cmpE t (i_ 0) (fun x => truK x (fun b m c => br b (putK i r (K n_) m c) (K n_ m c)))) m c
noncomputable def setF (i : Nat) (x : MV) (w : FD) (k : FD -> Nat -> Prop) (c : Nat) : Prop := chk (aA8 (pn i) w.vars) (k { w with vars := dput (pn i) x w.vars } (c + 1))
noncomputable def aC (i : Nat) (w : FD) (k : MV -> Prop) : Prop := som (aA9 (pn i) w.vars) fun x => chk (aA8 (pn i) w.vars) (k x)
noncomputable abbrev goK (l : Nat) (b : Bool) (m : Mem) (c : Nat) : Prop := br b (K (gow l) m c) (K n_ m c)
theorem dI7 (kind fid : Int) : stp n P G (aH7 (aA3 kind fid)) K (FW w.z tl) c = rdF fid w.z c fun _ w c => K n_ (FW w tl) c := by kernel_rfl
theorem cQ1 (kind ev : Int) (lid : Nat) : stp n P G (aH7 (eAsg kind (aA3 kind ev) (eLoc kind lid))) K (FW w.z tl) c =
  som (aA9 (pn lid) w.vars) fun x => chk (aA8 (pn lid) w.vars) (som (allP [i_ (-ev), x]) fun l => chk (Nat.ble l.length 1000) (K n_ (FW (w.z.add (.tup l)) tl) (c + 1))) := by kernel_rfl
theorem dZ1 (i : Nat) (fid : Int) : stp n P G (sAsg 21 (eLoc 21 i) (aA3 21 fid)) K (FW w.z tl) c = rdF fid w.z c fun v w c => setF i (.p v) w (fun w c => K n_ (FW w tl) c) c := by kernel_rfl
theorem cX5 (i : Nat) (fid : Int) : stp n P G (sAsg 18 (eLoc 18 i) (aA3 18 fid)) K (FW w.z tl) c = rdF fid w.z c fun v w c => setF i (.p v) w (fun w c => K n_ (FW w tl) c) c := by kernel_rfl
theorem dA8 (i : Nat) (fid : Int) : stp n P G (sAsg 20 (eLoc 20 i) (aA3 20 fid)) K (FW w.z tl) c = rdF fid w.z c fun v w c => setF i (.p v) w (fun w c => K n_ (FW w tl) c) c := by kernel_rfl
theorem dK9 (i : Nat) : stp n P G (sAsg 21 (eLoc 21 i) (eLoc 21 1)) K (FW w.z tl) c = aC 1 w fun x => setF i x w.z (fun w c => K n_ (FW w tl) c) c := by kernel_rfl
theorem eF2 (i : Nat) : stp n P G (cIdx i) K (FW w.z tl) c = setF i (i_ 0) w.z (fun w c => K n_ (FW w tl) c) c := by kernel_rfl
theorem dW6 (i : Nat) : stp n P G (cInc i) K (FW w.z tl) c = aC i w fun x => aF0 .Add x (i_ 1) (fun y => putR i K y) (FW w.z tl) c := by kernel_rfl
theorem cT5 (lid a i : Nat) : stp n P G (aL4 lid false a i) K (FW w.z tl) c = aC a w fun x => aC i w fun y => getI x y (putR lid K) (FW w.z tl) c := by kernel_rfl
theorem dB6 (lid a i : Nat) : stp n P G (aL4 lid true a i) K (FW w.z tl) c = aC a w fun x => aC i w fun y => getI x y (putR lid K) (FW w.z tl) c := by kernel_rfl
noncomputable def tstK (l : Nat) (ww : Int) (K : Kt MV) : Kt MV := fun v m c => cmpE v (i_ ww) (fun x => truK x (fun b m c => br b (getI (.obj 0) (.p (.str (V "thr"))) (fun t => cmpE t (i_ 0) (fun x => truK x (goK K l))) m c) (K n_ m c))) m c
theorem dW4 (ww : Int) (l : Nat) : stp n P G (cIf eAsk ww l) K (FW w.z tl) c = rdF 1000 w.z c fun v w c => tstK l ww K (.p v) (FW w tl) c := by kernel_rfl
theorem cL2 (i a l : Nat) : stp n P G (cIf (aQ1 i a) 1 l) K (FW w.z tl) c = aC i w fun x => aC a w fun y => br (isNone y) (K n_ (FW { w with thr := 1 } tl) (c + 1)) (aP y (fun u => aG1 (ext P) .Lt x u (fun x => truK x (goK K l))) (FW w.z tl) c) := by kernel_rfl
theorem s_go (l : Nat) : stp n P G (cGo l) K (FW w.z tl) c = K (gow l) (FW w.z tl) c := by kernel_rfl
theorem eB (l : Nat) : stp n P G (cLab l) K (FW w.z tl) c = K n_ (FW w.z tl) c := by kernel_rfl
theorem eI2 (fid : Int) : stp n P G (.tup [pi 12, aA3 7 fid]) K (FW w.z tl) c = rdF fid w.z c fun v w c => K (.p (.tup [.str (V "ret"), v])) (FW w tl) c := by kernel_rfl
theorem eE9 (fid : Int) : stp n P G (.tup [pi 13, aA3 12 fid]) K (FW w.z tl) c = rdF fid w.z c fun v w c => K (.p (.tup [.str (V "thr"), v])) (FW w tl) c := by kernel_rfl
noncomputable abbrev aF5 (n : Nat) (mid : Int) (x : MV) (K : Kt MV) (m : Mem) (c : Nat) : Prop := run P HX G n xCa [.obj 0, i_ mid, x] K m c
theorem cX7 (i : Nat) (fid mid : Int) : stp n P G (sAsg 16 (eLoc 16 i) (aG9 16 (aA3 17 fid) 17 mid 1)) K (FW w.z tl) c = rdF fid w.z c fun v w c => aF5 P G (n + 5) mid (.p v) (putR i K) (FW w tl) c := by kernel_rfl
theorem cM4 (i : Nat) (fid mid : Int) : stp n P G (sAsg 19 (eLoc 19 i) (aG9 19 (aA3 17 fid) 17 mid 1)) K (FW w.z tl) c = rdF fid w.z c fun v w c => aF5 P G (n + 5) mid (.p v) (putR i K) (FW w tl) c := by kernel_rfl
end
section
variable (n : Nat) (P : PI) (w : FD) (tl : Mem) (G : Orc) (K : Kt MV) (c : Nat)
theorem cX8 (lid v : Nat) (mid : Int) : stp n P G (sAsg 7 (eLoc 7 lid) (aG9 7 (eLoc 16 v) 16 mid 1)) K (FW w.z tl) c = aC v w fun x => aF5 P G (n + 5) mid x (putR lid K) (FW w.z tl) c := by kernel_rfl
theorem cY0 (lid v : Nat) (mid : Int) : stp n P G (sAsg 7 (eLoc 7 lid) (aG9 7 (eLoc 19 v) 19 mid 0)) K (FW w.z tl) c = aC v w fun x => aF5 P G (n + 5) mid x (putR lid K) (FW w.z tl) c := by kernel_rfl
theorem cB4 (lid v : Nat) (mid : Int) : stp n P G (sAsg 9 (eLoc 9 lid) (aF4 true (aG9 7 (eLoc 16 v) 16 mid 1))) K (FW w.z tl) c = aC v w fun x => aF5 P G (n + 4) mid x (putR lid K) (FW w.z tl) c := by kernel_rfl
theorem cG6 (lid v : Nat) (mid : Int) : stp n P G (sAsg 9 (eLoc 9 lid) (aF4 true (aG9 7 (eLoc 19 v) 19 mid 0))) K (FW w.z tl) c = aC v w fun x => aF5 P G (n + 4) mid x (putR lid K) (FW w.z tl) c := by kernel_rfl
theorem bE5 (v l : Nat) (mid : Int) : stp n P G (cIf (aG9 1 (eLoc 16 v) 16 mid 1) 1 l) K (FW w.z tl) c = aC v w fun x => aF5 P G (n + 6) mid x (tstK l 1 K) (FW w.z tl) c := by kernel_rfl
theorem bG2 (v l : Nat) (mid : Int) : stp n P G (cIf (aG9 1 (eLoc 19 v) 19 mid 0) 1 l) K (FW w.z tl) c = aC v w fun x => aF5 P G (n + 6) mid x (tstK l 1 K) (FW w.z tl) c := by kernel_rfl
theorem cG (v : Nat) (mid : Int) : stp n P G (aH2 18 v 18 mid 1) K (FW w.z tl) c = aC v w fun x => aF5 P G (n + 6) mid x (fun _ => K n_) (FW w.z tl) c := by kernel_rfl
theorem cA8 (v : Nat) (mid : Int) : stp n P G (aH2 16 v 16 mid 1) K (FW w.z tl) c = aC v w fun x => aF5 P G (n + 6) mid x (fun _ => K n_) (FW w.z tl) c := by kernel_rfl
theorem cC2 (v : Nat) (mid : Int) : stp n P G (aH2 19 v 19 mid 0) K (FW w.z tl) c = aC v w fun x => aF5 P G (n + 6) mid x (fun _ => K n_) (FW w.z tl) c := by kernel_rfl
theorem cQ8 (v : Nat) (mid : Int) : stp n P G (aH2 19 v 18 mid 2) K (FW w.z tl) c = aC v w fun x => aF5 P G (n + 6) mid x (fun _ => K n_) (FW w.z tl) c := by kernel_rfl
theorem bY9 (v : Nat) (mid : Int) : stp n P G (aH2 20 v 20 mid 0) K (FW w.z tl) c = aC v w fun x => aF5 P G (n + 6) mid x (fun _ => K n_) (FW w.z tl) c := by kernel_rfl
theorem dD4 (v l : Nat) : stp n P G (cIf (eNN 18 v) 0 l) K (FW w.z tl) c = aC v w fun x => br (!(isNone x == true)) (K n_ (FW w.z tl) c) (K (gow l) (FW w.z tl) c) := by kernel_rfl
theorem dQ4 (v l : Nat) : stp n P G (cIf (eNN 16 v) 0 l) K (FW w.z tl) c = aC v w fun x => br (!(isNone x == true)) (K n_ (FW w.z tl) c) (K (gow l) (FW w.z tl) c) := by kernel_rfl
noncomputable def asK (i : Nat) (x : MV) (K : Kt MV) : Mem -> Nat -> Prop := getI (.obj 3) x (fun row => getI row (i_ 0) (fun o => getI (.obj 4) o (fun sp => getI sp (i_ 3) (fun d => truK d (fun b m c => br (!b) (putR i K n_ m c) (putR i K x m c))))))
theorem s_as (i v : Nat) : stp n P G (sAsg 18 (eLoc 18 i) (eAs 18 (eLoc 16 v))) K (FW w.z tl) c = aC v w fun x => br (!isNone x) (asK i x K (FW w.z tl) c) (putR i K x (FW w.z tl) c) := by kernel_rfl
noncomputable abbrev flK (b : List PV) (K : Kt MV) (m : Mem) (c : Nat) : Prop := G (V "") xFl [.obj 0, .p (.tup b)] K m c
noncomputable def endS (l : List PV) (K : Kt MV) : Kt MV := fun r m c => flK G l (fun o m c => br (isNone o) (K r m c) (K o m c)) m c
theorem dD6 (b : List PV) (m : Mem) : stp n P G (cTry b (.tup []) .none) K m c = flK G b (fun r => thrK r (K r) (K r)) m c := by kernel_rfl
theorem bS0 (b l : List PV) (m : Mem) : stp n P G (cTry b (.tup []) (aA1 l)) K m c = flK G b (fun r => thrK r (endS G l K r) (endS G l K r)) m c := by kernel_rfl
theorem cO9 (b h : List PV) (lid : Int) (m : Mem) : stp n P G (cTry b (.tup [.tup [pi (-1), pi lid, .none, aA1 h]]) .none) K m c = flK G b (fun r => thrK r (fun m c => getI r (i_ 1) (fun v => putK lid v (flK G h K)) m c) (K r)) m c := by kernel_rfl
theorem cV0 (b h l : List PV) (lid : Int) (m : Mem) : stp n P G (cTry b (.tup [.tup [pi (-1), pi lid, .none, aA1 h]]) (aA1 l)) K m c = flK G b (fun r => thrK r (fun m c => getI r (i_ 1) (fun v => putK lid v (flK G h (endS G l K))) m c) (endS G l K r)) m c := by kernel_rfl
end
structure Fx (g : Sg) (st : MV) (L : List PV) (j : Nat) (M : List (PV × MV)) : Prop where
 st : st = .p (.tup L) ∨ (st = .obj 6 /\ g.ex = L)
 len : L.length < 1000000
 kp : (j, M) ∈ g.kp
 ks : allK 0 M = true
noncomputable abbrev Sg.at (g : Sg) (u : Int) : Sg := { g with u := u }
section
variable {P : PI} {Ga : Orc} {n : Nat} {g : Sg} {z : Nat} {e : En} {w : FD} {tl : Mem} {c : Nat} {st : MV} {L : List PV} {j : Nat} {M : List (PV × MV)} {K : Kt MV} {s : PV} {p l : Nat}
theorem g_st {args : List MV} {m : Mem} : Gj P Ga (n + 1) (V "") xSt args K m c = run P HX Ga n xSt args K m c := by kernel_rfl
noncomputable abbrev cO (P : PI) (Ga : Orc) (n : Nat) (K : Kt MV) (f : Nat) : Loc -> Mem -> Nat -> Prop := aQ0 P (Gj P Ga (n + 9)) f (blkK K)
noncomputable def aftE (P : PI) (Ga : Orc) (n : Nat) (st mk : MV) (K : Kt MV) (f : Nat) (pl : MV) (p : Nat) : Kt MV := fun r => endG P mk K (cO P Ga n K f (locM st mk [(V "place", pl), (V "at", i_ (p + 1)), (V "end", r)])) (fun v => cO P Ga n K f (locM st mk [(V "place", pl), (V "at", v), (V "end", r)])) r
noncomputable def Wp (P : PI) (Ga : Orc) (n : Nat) (st : MV) (j : Nat) (K : Kt MV) (g : Sg) (z p : Nat) (e : En) : Prop := ∀ u w tl c f pl r, g.u <= u -> Rw (g.at u) z e w tl c -> 20001 <= u + (f : Nat) -> (r = [] ∨ ∃ v, r = [(V "end", v)]) -> cO P Ga n K f (locT st (.obj (j + 7)) pl p r) (FW w tl) c
noncomputable def Tn (P : PI) (Ga : Orc) (n : Nat) (st : MV) (j : Nat) (K : Kt MV) (g : Sg) (z p : Nat) (e : En) (s : PV) : Prop := ∀ u w tl c f pl, g.u <= u -> Rw (g.at u) z e w tl c -> 20001 <= u + (f : Nat) -> stp n P Ga s (aftG P (aftE P Ga n st (.obj (j + 7)) K f pl p)) (FW w tl) c
noncomputable def Jw (P : PI) (Ga : Orc) (n : Nat) (st : MV) (j : Nat) (K : Kt MV) (g : Sg) (z l : Nat) (e : En) : Prop := ∀ u w tl c f pl p, g.u <= u -> Rw (g.at u) z e w tl c -> 20001 <= u + (f : Nat) -> aftE P Ga n st (.obj (j + 7)) K f pl p (gow l) (FW w tl) c
theorem Rw.base {u : Int} (R : Rw (g.at u) z e w tl c) (h : g.u <= u) : Rw g z e w tl c :=
 ⟨R.at_, R.out, R.vars, R.keys, R.live, R.specs, R.tape, R.thr, R.ac, R.tpl, R.spl, R.cnts, R.extra, R.kept, Int.le_trans h R.low⟩
theorem cI7 (F : Fx g st L j M) (h : w.extra = g.ex) {K : Kt MV} (q : K (i_ L.length) (FW w tl) c) : aP st K (FW w tl) c := by
 refine F.st.elim (fun z => by subst z; exact q) fun z => ?_
 obtain ⟨z, y⟩ := z
 subst z; subst y
 show K (i_ w.extra.length) (FW w tl) c
 rw [h]; exact q
theorem dP1 (F : Fx g st L j M) (h : w.extra = g.ex) (hs : L[p]? = some s) {K : Kt MV} (q : K (.p s) (FW w tl) c) : getI st (i_ p) K (FW w tl) c := by
 have hp : Nat.blt p 1000000 = true := zzI (Nat.lt_trans (zzA.mp hs).1 F.len)
 refine F.st.elim (fun z => ?_) fun z => ?_
 ·subst z
  show chk (Nat.blt p 1000000) (som L[p]? fun x => K (.p x) (FW w tl) c)
  rw [hp, hs]; exact q
 ·obtain ⟨z, y⟩ := z
  subst z; subst y
  show chk (Nat.blt p 1000000) (som w.extra[p]? fun x => K (.p x) (FW w tl) c)
  rw [hp, h, hs]; exact q
theorem Rw.turn {u : Int} (R : Rw (g.at u) (z + 4) e w tl c) : Rw (g.at (u + 1)) z e { w with turns := w.turns + 1 } tl (c + 1) :=
 ⟨R.at_, R.out, R.vars, R.keys, R.live, R.specs, R.tape, R.thr, by have := R.ac; show Ac g.cm z e.gas e.live.length (w.turns + 1) (c + 1); unfold Ac at *; lia, R.tpl, R.spl, R.cnts, R.extra, R.kept, Int.add_le_add_right R.low 1⟩
theorem cR (F : Fx g st L j M) (hs : L[p]? = some s) (q : Tn P Ga n st j K g z p e s) : Wp P Ga n st j K g (z + 4) p e := by
 intro u w tl c f pl r hu R hf hr
 have hl : u <= w.turns := R.low
 have ha := R.ac
 have hp := (zzA.mp hs).1
 cases f with
 | zero => unfold Ac at ha; exact absurd hf (by lia)
 | succ f =>
  have go : cD P (Gj P Ga (n + 9)) K st (.obj (j + 7)) pl p f (FW w tl) c := by
   refine cI7 F R.extra (decT (by lia) ?_)
   refine (dI5 P (Gj P Ga (n + 9)) K c w tl st (.obj (j + 7)) pl p f).mpr (decF (by unfold Ac at ha; lia) ?_)
   exact dP1 (w := { w with turns := w.turns + 1 }) F R.extra hs ((g_st (P := P) (n := n + 8)).mpr (q _ _ _ _ f pl (by lia) R.turn (by lia)))
  refine hr.elim (fun z => ?_) fun z => ex1 z fun v z => ?_ <;> subst z
  ·exact (bV0 P (Gj P Ga (n + 9)) K c st (.obj (j + 7)) pl p f (FW w tl)).mpr go
  ·exact (bP2 P (Gj P Ga (n + 9)) K c st (.obj (j + 7)) pl v p f (FW w tl)).mpr go
variable {u : Int} {f : Nat} {pl : MV}
theorem bZ6 {K : MV -> Mem -> Nat -> Prop} {r : MV} (h : w.thr = 0) (q : K r (FW w tl) c) : aftG P K r (FW w tl) c := by
 obtain ⟨a1, a2, a3, a4, a5, a6, a7, a8, a9⟩ := w
 cases (show a7 = 0 from h)
 exact (dS P c ⟨a1, a2, a3, a4, a5, a6, 0, a8, a9⟩ tl K r).mpr q
theorem aB1 (W : Wp P Ga n st j K g z (p + 1) e) (hu : g.u <= u) (R : Rw (g.at u) z e w tl c) (hf : 20001 <= u + (f : Nat)) : aftG P (aftE P Ga n st (.obj (j + 7)) K f pl p) n_ (FW w tl) c :=
 bZ6 R.thr (W u w tl c f pl _ hu R hf (.inr ⟨n_, rfl⟩))
theorem aO2 (J : Jw P Ga n st j K g z l e) (hu : g.u <= u) (R : Rw (g.at u) z e w tl c) (hf : 20001 <= u + (f : Nat)) : aftG P (aftE P Ga n st (.obj (j + 7)) K f pl p) (gow l) (FW w tl) c :=
 bZ6 R.thr (J u w tl c f pl p hu R hf)
theorem bP1 {v : Int} (k : Lk g z e K (rv (.ret v))) (hu : g.u <= u) (R : Rw (g.at u) z e w tl c) : aftG P (aftE P Ga n st (.obj (j + 7)) K f pl p) (rv (.ret v)) (FW w tl) c :=
 bZ6 R.thr ((dO6 P K c (.obj (j + 7)) _ _ v (FW w tl)).mpr (k _ _ _ (R.base hu)))
theorem bP0 {v : Int} (k : Lk g z e K (rv (.thr v))) (hu : g.u <= u) (R : Rw (g.at u) z e w tl c) : aftG P (aftE P Ga n st (.obj (j + 7)) K f pl p) (rv (.thr v)) (FW w tl) c :=
 bZ6 R.thr ((cL4 P K c (.obj (j + 7)) _ _ v (FW w tl)).mpr (k _ _ _ (R.base hu)))
theorem aK9 (k : Lk g z e K (rv (.thr 1))) (hu : g.u <= u) (R : Rw (g.at u) (z + 1) e w tl c) : aftG P (aftE P Ga n st (.obj (j + 7)) K f pl p) n_ (FW { w with thr := 1 } tl) c := by
 have fin := k w tl (c + 1) ((R.use (by lia)).base hu)
 have h := R.thr
 obtain ⟨a1, a2, a3, a4, a5, a6, a7, a8, a9⟩ := w
 cases (show a7 = 0 from h)
 exact (dC7 P c ⟨a1, a2, a3, a4, a5, a6, 0, a8, a9⟩ tl _ n_).mpr ((cL4 P K (c + 1) (.obj (j + 7)) _ _ 1 _).mpr fin)
theorem eB3 {p' : Nat} (F : Fx g st L j M) (h : aA9 (pn l) M = some (.p (pn p'))) (W : Wp P Ga n st j K g z p' e) : Jw P Ga n st j K g z l e := fun u w tl c f pl p hu R hf => by
 refine (cH5 P K c j l _ _ w tl).mpr ?_
 rw [R.kept _ F.kp]
 show chk (aA8 (pn l) M) (br (!(aA9 (pn l) M).isSome) _ (getI _ _ _ _ _))
 rw [aC6 F.ks, h]
 show (match tl[j]? with | some (.pl l) => _ | some (.list l) => _ | some (.dict es) => _ | _ => False)
 rw [R.kept _ F.kp]
 show som (aA9 (pn l) M) fun x => chk (aA8 (pn l) M) _
 rw [aC6 F.ks, h]
 exact W u w tl c f pl _ hu R hf (.inr ⟨_, rfl⟩)
theorem bG0 (F : Fx g st L j M) (h : aA9 (pn l) M = none) (k : Lk g z e K (gow l)) : Jw P Ga n st j K g z l e := fun u w tl c f pl p hu R hf => by
 refine (cH5 P K c j l _ _ w tl).mpr ?_
 rw [R.kept _ F.kp]
 show chk (aA8 (pn l) M) (br (!(aA9 (pn l) M).isSome) _ (getI _ _ _ _ _))
 rw [aC6 F.ks, h]
 exact k _ _ _ (R.base hu)
end
section
variable {P : PI} {Ga : Orc} {n : Nat} {g : Sg} {z : Nat} {e : En} {w : FD} {tl : Mem} {c : Nat} {st : MV} {j : Nat} {K : Kt MV} {s : PV} {p l i : Nat} {v : PV} {k : FD -> Nat -> Prop}
theorem dJ6 {x : Int} {r : MV} : putR x K r (FW w.z tl) c = putK x r (K n_) (FW w.z tl) c := by kernel_rfl
theorem dJ9 {x : Int} {r : MV} : putR x K r (FW { w with thr := 1 } tl) c = K n_ (FW { w with thr := 1 } tl) c := by kernel_rfl
theorem dF6 {x y : Int} : tstK l x K (i_ y) (FW w.z tl) c = br (decide (y = x)) (K (gow l) (FW w.z tl) c) (K n_ (FW w.z tl) c) := by kernel_rfl
theorem dD0 : tstK l 1 K (i_ 0) (FW { w with thr := 1 } tl) c = K n_ (FW { w with thr := 1 } tl) c := by kernel_rfl
theorem z_of (h : w.thr = 0) {Q : FD -> Prop} (q : Q w.z) : Q w := by
 obtain ⟨a1, a2, a3, a4, a5, a6, a7, a8, a9⟩ := w
 cases (show a7 = 0 from h)
 exact q
theorem of_z (h : w.thr = 0) {Q : FD -> Prop} (q : Q w) : Q w.z := by
 obtain ⟨a1, a2, a3, a4, a5, a6, a7, a8, a9⟩ := w
 cases (show a7 = 0 from h)
 exact q
theorem aX0 (R : Rw g (z + 1) e w tl c) (q : Lk g z (e.set i v) (fun _ => K n_) n_) : putR i K (.p v) (FW w tl) c :=
 z_of (Q := fun w => putR i K (.p v) (FW w tl) c) R.thr ((dJ6 (w := w)).mpr (bI7 (of_z (Q := fun w => Rw g (z + 1) e w tl c) R.thr R) q))
theorem dV1 {x y : Int} (h : w.thr = 0) (q1 : y = x -> K (gow l) (FW w tl) c) (q2 : y ≠ x -> K n_ (FW w tl) c) : tstK l x K (i_ y) (FW w tl) c := by
 refine z_of (Q := fun w => tstK l x K (i_ y) (FW w tl) c) h ((dF6 (w := w)).mpr ?_)
 by_cases d : y = x
 ·exact decT d (of_z (Q := fun w => K (gow l) (FW w tl) c) h (q1 d))
 ·exact decF d (of_z (Q := fun w => K n_ (FW w tl) c) h (q2 d))
theorem cB3 (R : Rw g (z + 1) e w tl c) (q : ∀ w c, Rw g z (e.set i v) w tl c -> k w c) : setF i (.p v) w k c := by
 show chk (aA8 (pn i) w.vars) _
 rw [aC6 R.keys]
 exact q _ _ ((R.set i v).use (by lia))
theorem aD1 (R : Rw g z e w tl c) (h : e.vars i = some v) {k : MV -> Prop} (q : k (.p v)) : aC i w k := by
 show som (aA9 (pn i) w.vars) _
 rw [R.vars i v h]
 show chk (aA8 (pn i) w.vars) _
 rw [aC6 R.keys]
 exact q
theorem aD9 (q : ∀ (u : Int) (w : FD) (tl : Mem) (c f : Nat) (pl : MV), g.u <= u -> Rw (g.at u) z e w.z tl c -> 20001 <= u + (f : Nat) -> stp n P Ga s (aftG P (aftE P Ga n st (.obj (j + 7)) K f pl p)) (FW w.z tl) c) : Tn P Ga n st j K g z p e s := by
 intro u w tl c f pl hu R hf
 have h := R.thr
 obtain ⟨a1, a2, a3, a4, a5, a6, a7, a8, a9⟩ := w
 cases (show a7 = 0 from h)
 exact q u ⟨a1, a2, a3, a4, a5, a6, 0, a8, a9⟩ tl c f pl hu R hf
end
section
variable {P : PI} {Ga : Orc} {n : Nat} {g : Sg} {z : Nat} {e : En} {w : FD} {tl : Mem} {c : Nat} {st : MV} {j : Nat} {K : Kt MV} {p l i : Nat} {v : PV} {k : FD -> Nat -> Prop}
theorem dC8 {ev kind : Int} (h : ev < 1000 ∨ (1000 < ev /\ ev < 1080)) (W : Wp P Ga n st j K g z (p + 1) (e.said ev)) : Tn P Ga n st j K g (z + 1) p e (aH7 (aA3 kind ev)) :=
 aD9 fun u w tl c f pl hu R hf => (dI7 n P w tl Ga _ c kind ev).mpr (aM4 h (aB1 W hu ((R.emit _ _).use (by lia)) hf))
theorem cG5 {lid : Nat} {kind ev : Int} (h : e.vars lid = some v) (W : Wp P Ga n st j K g z (p + 1) (e.emit (pi (-ev)) v)) : Tn P Ga n st j K g (z + 1) p e (sX (.shown lid kind ev)) :=
 aD9 fun u w tl c f pl hu R hf => (cQ1 n P w tl Ga _ c kind ev lid).mpr <| aD1 R h (k := fun x => som (allP [i_ (-ev), x]) fun l => chk (Nat.ble l.length 1000) (aftG P (aftE P Ga n st (.obj (j + 7)) K f pl p) n_ (FW (w.z.add (.tup l)) tl) (c + 1))) (aB1 W hu ((R.emit _ _).use (by lia)) hf)
theorem cH0 {r : Nat} (h : r < 4) (W : Wp P Ga n st j K g z (p + 1) ((e.row r).set i (arrV (rowL r)))) : Tn P Ga n st j K g (z + 2) p e (sAsg 21 (eLoc 21 i) (bI1 r)) :=
 aD9 fun u w tl c f pl hu R hf => (dZ1 n P w tl Ga _ c i (1080 + r)).mpr (bX2 h (cB3 (z := z) ((R.emit _ _).use (m := 1) (by lia)) fun w c R => aB1 W hu R hf))
theorem dQ9 {y lid : Nat} (W : Wp P Ga n st j K g z (p + 1) ((e.emit (pi (fUse y)) (orZ (useV y))).set lid (useV y))) : Tn P Ga n st j K g (z + 2) p e (cUse y lid) :=
 aD9 fun u w tl c f pl hu R hf => by
  have fin : rdF (fUse y) w.z c fun v w c => setF lid (.p v) w (fun w c => aftG P (aftE P Ga n st (.obj (j + 7)) K f pl p) n_ (FW w tl) c) c := cL8 (cB3 (z := z) ((R.emit _ _).use (m := 1) (by lia)) fun w c R => aB1 W hu R hf)
  unfold cUse
  by_cases h : y = 2
  ·subst h; exact (dA8 n P w tl Ga _ c lid 1090).mpr fin
  ·rw [show kUse y = 18 by unfold kUse; split <;> first | rfl | exact absurd rfl h]
   exact (cX5 n P w tl Ga _ c lid (fUse y)).mpr fin
theorem cW1 (h : e.vars 1 = some v) (W : Wp P Ga n st j K g z (p + 1) (e.set i v)) : Tn P Ga n st j K g (z + 1) p e (cArr i none) :=
 aD9 fun u w tl c f pl hu R hf => (dK9 n P w tl Ga _ c i).mpr (aD1 R h (cB3 R fun w c R => aB1 W hu R hf))
theorem dK (W : Wp P Ga n st j K g z (p + 1) (e.set i (pi 0))) : Tn P Ga n st j K g (z + 1) p e (cIdx i) :=
 aD9 fun u w tl c f pl hu R hf => (eF2 n P w tl Ga _ c i).mpr (cB3 R fun w c R => aB1 W hu R hf)
theorem dF0 {x : Int} (h : e.vars i = some (pi x)) (W : Wp P Ga n st j K g z (p + 1) (e.set i (pi (x + 1)))) : Tn P Ga n st j K g (z + 1) p e (cInc i) :=
 aD9 fun u w tl c f pl hu R hf => (dW6 n P w tl Ga _ c i).mpr (aD1 R h (aX0 (z := z) (v := pi (x + 1)) R fun w tl c R => aB1 W hu R hf))
theorem cW5 {lid a q : Nat} {wd : Bool} {L : List PV} (ha : e.vars a = some (.tup L)) (hi : e.vars i = some (pn q)) (hq : q < 1000000) (hl : L[q]? = some v) (W : Wp P Ga n st j K g z (p + 1) (e.set lid v)) : Tn P Ga n st j K g (z + 1) p e (aL4 lid wd a i) :=
 aD9 fun u w tl c f pl hu R hf => by
  have fin : aC a w fun x => aC i w fun y => getI x y (putR lid (aftG P (aftE P Ga n st (.obj (j + 7)) K f pl p))) (FW w.z tl) c := aD1 R ha (aD1 R hi (by
   show chk (Nat.blt q 1000000) (som L[q]? _)
   rw [show Nat.blt q 1000000 = true from zzI hq, hl]
   exact aX0 (z := z) R fun w tl c R => aB1 W hu R hf))
  cases wd with
  | true => exact (dB6 n P w tl Ga _ c lid a i).mpr fin
  | false => exact (cT5 n P w tl Ga _ c lid a i).mpr fin
theorem cA3 {a : Nat} {x : PV} (hi : e.vars i = some x) (ha : e.vars a = some .none) (q : Lk g z e K (rv (.thr 1))) : Tn P Ga n st j K g (z + 2) p e (cIf (aQ1 i a) 1 l) :=
 aD9 fun u w tl c f pl hu R hf => (cL2 n P w tl Ga _ c i a l).mpr (aD1 R hi (aD1 R ha (aK9 (w := w.z) q hu (R.use (m := 1) (by lia)))))
theorem bU7 {a q : Nat} {L : List PV} (hi : e.vars i = some (pn q)) (ha : e.vars a = some (.tup L)) (h1 : q < L.length -> Jw P Ga n st j K g z l e) (h2 : ¬q < L.length -> Wp P Ga n st j K g z (p + 1) e) : Tn P Ga n st j K g z p e (cIf (aQ1 i a) 1 l) :=
 aD9 fun u w tl c f pl hu R hf => (cL2 n P w tl Ga _ c i a l).mpr (aD1 R hi (aD1 R ha (by
  show br (decide ((q : Int) < (L.length : Int))) _ _
  by_cases d : q < L.length
  ·exact decT (by lia) (aO2 (h1 d) hu R hf)
  ·exact decF (by lia) (aB1 (h2 d) hu R hf))))
theorem cI8 {b : Bool} (h1 : ans g.tp e = b -> Jw P Ga n st j K g z l (e.asked g.tp)) (h2 : ans g.tp e ≠ b -> Wp P Ga n st j K g z (p + 1) (e.asked g.tp)) : Tn P Ga n st j K g (z + 1) p e (cIf eAsk (b2i b) l) :=
 aD9 fun u w tl c f pl hu R hf => (dW4 n P w tl Ga _ c (b2i b) l).mpr (cI3 R (dV1 R.thr (fun d => aO2 (h1 (by revert d; cases ans (g.at u).tp e <;> cases b <;> first | exact fun _ => rfl | exact fun d => nomatch d)) hu (R.asked (by lia)) hf) fun d => aB1 (h2 fun y => d (congrArg b2i y)) hu (R.asked (by lia)) hf))
theorem eB6 (h : Jw P Ga n st j K g z l e) : Tn P Ga n st j K g z p e (cGo l) :=
 aD9 fun u w tl c f pl hu R hf => (s_go n P w tl Ga _ c l).mpr (aO2 h hu R hf)
theorem dN3 (W : Wp P Ga n st j K g z (p + 1) e) : Tn P Ga n st j K g z p e (cLab l) :=
 aD9 fun u w tl c f pl hu R hf => (eB n P w tl Ga _ c l).mpr (aB1 W hu R hf)
theorem dS3 {ev : Int} (h : ev < 1000) (q : Lk g z (e.said ev) K (rv (.ret ev))) : Tn P Ga n st j K g (z + 1) p e (sJ (.ret ev)) :=
 aD9 fun u w tl c f pl hu R hf => (eI2 n P w tl Ga _ c ev).mpr (aM4 (.inl h) (bP1 q hu ((R.emit _ _).use (by lia))))
theorem dO8 {r : Nat} (h : r < 10) (q : Lk g z (e.said (1070 + r)) K (rv (.thr (1070 + r)))) : Tn P Ga n st j K g (z + 1) p e (sJ (.thr r)) :=
 aD9 fun u w tl c f pl hu R hf => (eE9 n P w tl Ga _ c (1070 + r)).mpr (aM4 (.inr ⟨by lia, by lia⟩) (bP0 q hu ((R.emit _ _).use (by lia))))
end
section
variable {P : PI} {Ga : Orc} {n : Nat} {g : Sg} {z : Nat} {e : En} {w : FD} {tl : Mem} {c : Nat} {st : MV} {j : Nat} {K : Kt MV} {s : PV} {p l i : Nat} {v : PV} {k : FD -> Nat -> Prop}
theorem aY {mid : Int} (h : w.thr = 0) (q : K (i_ 0) (FW { w with thr := 1 } tl) (c + 1)) : aF5 P Ga (n + 4) mid n_ K (FW w tl) c :=
 (dG1 n P w tl Ga K c mid).mpr (decT h q)
theorem bG3 (R : Rw g z e w tl c) {i : Nat} {s : Spec} (h : g.sp[i]? = some s) : i < 1000000 := zzF ((zzA.mp h).1) (nT R.spl (by decide))
theorem bB7 (R : Rw g z e w tl c) {i : Nat} {r : Nat × Nat} (h : e.live[i]? = some r) : i < 1000000 := by
 have := (zzA.mp h).1
 have a := R.ac
 unfold Ac at a; lia
theorem dJ2 {sort idx : Nat} {s : Spec} (h : g.sp[idx]? = some s) (q1 : s.null = true -> Lk g z (e.emit (pi (1100 + idx)) (pi 0)) K (rv (.thr 1)))
  (q2 : s.null = false -> s.nullE = true -> Wp P Ga n st j K g z (p + 1) (((e.emit (pi (1100 + idx)) (pn idx)).ev (V "get") idx).set i .none))
  (q3 : s.null = false -> s.nullE = false -> Wp P Ga n st j K g z (p + 1) ({ (e.emit (pi (1100 + idx)) (pn idx)).ev (V "get") idx with live := e.live ++ [(idx, 0)] }.set i (pn e.live.length))) : Tn P Ga n st j K g (z + 4) p e (cGet i sort idx) :=
 aD9 fun u w tl c f pl hu R hf => by
  have fin : ∀ {mid : Int}, mid = 2 ∨ mid = 3 -> rdF (1100 + idx) w.z c fun v w c => aF5 P Ga (n + 5) mid (.p v) (putR i (aftG P (aftE P Ga n st (.obj (j + 7)) K f pl p))) (FW w tl) c := fun hm => bL2 R h (bG3 R h)
   (fun h1 => aY (n := n + 1) R.thr ((dJ9 (w := w.z.say (pi (1100 + idx)) (pi 0))).mpr (aK9 (w := w.z.say (pi (1100 + idx)) (pi 0)) (q1 h1) hu ((R.emit (pi (1100 + idx)) (pi 0)).use (m := 3) (by lia)))))
   fun h1 => cL (n := n + 1) (z := z + 1) ((R.emit (pi (1100 + idx)) (pn idx)).use (m := 1) (by lia)) h (bG3 R h) hm
    (fun h2 w tl c R => aX0 (v := .none) R fun w tl c R => aB1 (q2 h1 h2) hu R hf)
    fun h2 w tl c R => aX0 R fun w tl c R => aB1 (q3 h1 h2) hu R hf
  unfold cGet eGet aA7
  cases isC sort with
  | true => exact (cX7 n P w tl Ga _ c i (1100 + idx) 2).mpr (fin (.inl rfl))
  | false => exact (cM4 n P w tl Ga _ c i (1100 + idx) 3).mpr (fin (.inr rfl))
theorem dF7 {sort lid y each on cnt : Nat} {wd : Bool} (hv : e.vars y = some (pn each)) (h : e.live[each]? = some (on, cnt)) (hc : cnt < 1000) (W : Wp P Ga n st j K g z (p + 1) ((e.ev (V "now") each).set lid (pn (10 * cnt + each)))) : Tn P Ga n st j K g (z + 2) p e (cNow lid wd y sort) :=
 aD9 fun u w tl c f pl hu R hf => by
  have fin : ∀ {mid : Int} {n' : Nat}, mid = 5 ∨ mid = 7 -> aC y w fun x => aF5 P Ga (n' + 4) mid x (putR lid (aftG P (aftE P Ga n st (.obj (j + 7)) K f pl p))) (FW w.z tl) c := fun hm =>
   aD1 R hv (cH (z := z + 1) R h (bB7 R h) hc hm fun w tl c R => aX0 R fun w tl c R => aB1 W hu R hf)
  unfold cNow eNow aA7 bU
  cases isC sort with
  | true => cases wd with
   | true => exact (cB4 n P w tl Ga _ c lid y 5).mpr (fin (.inl rfl))
   | false => exact (cX8 n P w tl Ga _ c lid y 5).mpr (fin (n' := n + 1) (.inl rfl))
  | false => cases wd with
   | true => exact (cG6 n P w tl Ga _ c lid y 7).mpr (fin (.inr rfl))
   | false => exact (cY0 n P w tl Ga _ c lid y 7).mpr (fin (n' := n + 1) (.inr rfl))
theorem bV {sort y each on cnt : Nat} {s : Spec} (hv : e.vars y = some (pn each)) (h : e.live[each]? = some (on, cnt)) (hs : g.sp[on]? = some s)
  (q1 : cnt + 1 <= s.count -> Jw P Ga n st j K g z l { e.ev (V "step") each with live := e.live.set each (on, cnt + 1) }) (q2 : ¬cnt + 1 <= s.count -> Wp P Ga n st j K g z (p + 1) { e.ev (V "step") each with live := e.live.set each (on, cnt + 1) }) : Tn P Ga n st j K g (z + 1) p e (cIf (aI5 y sort) 1 l) :=
 aD9 fun u w tl c f pl hu R hf => by
  have fin : ∀ {mid : Int}, mid = 4 ∨ mid = 6 -> aC y w fun x => aF5 P Ga (n + 6) mid x (tstK l 1 (aftG P (aftE P Ga n st (.obj (j + 7)) K f pl p))) (FW w.z tl) c := fun hm =>
   aD1 R hv (bA7 (n := n + 2) R h hs (bB7 R h) (bG3 R hs) hm fun w tl c R => dV1 R.thr (fun d => aO2 (q1 (by cases z : decide (cnt + 1 <= s.count) with | true => exact of_decide_eq_true z | false => rw [z] at d; exact nomatch d)) hu R hf) fun d => aB1 (q2 (fun z => d (by rw [decide_eq_true z]; rfl))) hu R hf)
  unfold aI5 aA7 bU
  cases isC sort with
  | true => exact (bE5 n P w tl Ga _ c y l 4).mpr (fin (.inl rfl))
  | false => exact (bG2 n P w tl Ga _ c y l 6).mpr (fin (.inr rfl))
theorem bY7 {sort y : Nat} (hv : e.vars y = some .none) (q : Lk g z e K (rv (.thr 1))) : Tn P Ga n st j K g (z + 2) p e (cIf (aI5 y sort) 1 l) :=
 aD9 fun u w tl c f pl hu R hf => by
  have fin : ∀ {mid : Int}, aC y w fun x => aF5 P Ga (n + 6) mid x (tstK l 1 (aftG P (aftE P Ga n st (.obj (j + 7)) K f pl p))) (FW w.z tl) c := fun {mid} =>
   aD1 R hv (aY (n := n + 2) R.thr ((dD0 (w := w.z)).mpr (aK9 (w := w.z) q hu (R.use (m := 1) (by lia)))))
  unfold aI5 aA7 bU
  cases isC sort with
  | true => exact (bE5 n P w tl Ga _ c y l 4).mpr fin
  | false => exact (bG2 n P w tl Ga _ c y l 6).mpr fin
theorem bC2 {k : Int} {y : Nat} {x : PV} (hk : k = 18 ∨ k = 16) (hv : e.vars y = some x) (q1 : x = .none -> Jw P Ga n st j K g z l e) (q2 : x ≠ .none -> Wp P Ga n st j K g z (p + 1) e) : Tn P Ga n st j K g z p e (cIf (eNN k y) 0 l) :=
 aD9 fun u w tl c f pl hu R hf => by
  have fin : aC y w fun x => br (!(isNone x == true)) (aftG P (aftE P Ga n st (.obj (j + 7)) K f pl p) n_ (FW w.z tl) c) (aftG P (aftE P Ga n st (.obj (j + 7)) K f pl p) (gow l) (FW w.z tl) c) := aD1 R hv (by
   cases x with
   | none => exact aO2 (q1 rfl) hu R hf
   | _ => exact aB1 (q2 fun z => nomatch z) hu R hf)
  refine hk.elim (fun z => ?_) fun z => ?_ <;> subst z
  ·exact (dD4 n P w tl Ga _ c y l).mpr fin
  ·exact (dQ4 n P w tl Ga _ c y l).mpr fin
noncomputable def dO2 (k own mid virt : Int) : Prop := (k = 18 /\ own = 18 /\ mid = 8 /\ virt = 1) ∨ (k = 16 /\ own = 16 /\ mid = 9 /\ virt = 1) ∨ (k = 19 /\ own = 19 /\ mid = 10 /\ virt = 0) ∨ (k = 19 /\ own = 18 /\ mid = 8 /\ virt = 2) ∨ (k = 20 /\ own = 20 /\ mid = 11 /\ virt = 0)
theorem aK3 {k own mid virt : Int} {y a : Nat} (hk : dO2 k own mid virt) (hv : e.vars y = some (pn a)) (W : Wp P Ga n st j K g z (p + 1) (e.ev (V "over") a)) : Tn P Ga n st j K g (z + 1) p e (aH2 k y own mid virt) :=
 aD9 fun u w tl c f pl hu R hf => by
  have fin : ∀ {mid : Int}, mid = 8 ∨ mid = 9 ∨ mid = 10 ∨ mid = 11 -> aC y w fun x => aF5 P Ga (n + 6) mid x (fun _ => aftG P (aftE P Ga n st (.obj (j + 7)) K f pl p) n_) (FW w.z tl) c := fun hm =>
   aD1 R hv (bC7 (n := n + 2) R hm fun w tl c R => aB1 W hu R hf)
  rcases hk with ⟨h1, h2, h3, h4⟩ | ⟨h1, h2, h3, h4⟩ | ⟨h1, h2, h3, h4⟩ | ⟨h1, h2, h3, h4⟩ | ⟨h1, h2, h3, h4⟩ <;> subst h1 h2 h3 h4
  ·exact (cG n P w tl Ga _ c y 8).mpr (fin (.inl rfl))
  ·exact (cA8 n P w tl Ga _ c y 9).mpr (fin (.inr (.inl rfl)))
  ·exact (cC2 n P w tl Ga _ c y 10).mpr (fin (.inr (.inr (.inl rfl))))
  ·exact (cQ8 n P w tl Ga _ c y 8).mpr (fin (.inl rfl))
  ·exact (bY9 n P w tl Ga _ c y 11).mpr (fin (.inr (.inr (.inr rfl))))
theorem bS8 {m : Mem} {i a : Nat} {l : List MV} {x : MV} (h : m[i]? = some (.list l)) (hx : l[a]? = some x) (ha : a < 1000000) (q : K x m c) : getI (.obj i) (.p (pn a)) K m c := by
 show (match m[i]? with | some (.pl l) => _ | some (.list l) => _ | some (.dict es) => _ | _ => False)
 rw [h]
 show chk (Nat.blt a 1000000) (som l[a]? fun x => K x m c)
 rw [show Nat.blt a 1000000 = true from zzI ha, hx]
 exact q
theorem dU8 {m : Mem} {s : Spec} {k : Mem -> Nat -> Bool -> Prop} (q : k m c s.disp) : getI (.p (aC1 s)) (i_ 3) (fun d => truK d (fun b m c => k m c b)) m c := q
theorem dM {y : Nat} (hv : e.vars y = some .none) (W : Wp P Ga n st j K g z (p + 1) (e.set i .none)) : Tn P Ga n st j K g (z + 1) p e (sAsg 18 (eLoc 18 i) (eAs 18 (eLoc 16 y))) :=
 aD9 fun u w tl c f pl hu R hf => (s_as n P w tl Ga _ c i y).mpr (aD1 R hv (aX0 (v := .none) R fun w tl c R => aB1 W hu R hf))
theorem dY6 {y each on cnt : Nat} {s : Spec} (hv : e.vars y = some (pn each)) (h : e.live[each]? = some (on, cnt)) (hs : g.sp[on]? = some s)
  (q1 : s.disp = false -> Wp P Ga n st j K g z (p + 1) (e.set i .none)) (q2 : s.disp = true -> Wp P Ga n st j K g z (p + 1) (e.set i (pn each))) : Tn P Ga n st j K g (z + 1) p e (sAsg 18 (eLoc 18 i) (eAs 18 (eLoc 16 y))) :=
 aD9 fun u w tl c f pl hu R hf => (s_as n P w tl Ga _ c i y).mpr (aD1 R hv (by
  obtain ⟨l, j', h1, h2, h3, _⟩ := R.row h
  show asK i (.p (pn each)) _ (FW w.z tl) c
  unfold asK
  refine bS8 (a := each) (show (FW w.z tl)[3]? = some (.list l) from congrArg some h1) h2 (bB7 R h) ?_
  refine aH1 (n := 0) (show (FW w.z tl)[j' + 7]? = _ from h3) rfl (by decide) ?_
  refine aH1 (i := 4) (n := on) (x := aC1 s) rfl (by rw [show w.z.specs = _ from R.specs, zza, hs]; rfl) (bG3 R hs) ?_
  refine dU8 (k := fun m c b => br (!b) (putR i _ n_ m c) (putR i _ (.p (pn each)) m c)) ?_
  cases d : s.disp with
  | true => exact aX0 R fun w tl c R => aB1 (q2 d) hu R hf
  | false => exact aX0 (v := .none) R fun w tl c R => aB1 (q1 d) hu R hf))
end
noncomputable def dN0 : List PV -> Option Nat
 | .int (.ofNat l) :: _ => some l
 | _ => none
noncomputable def labI (a : Int) (r : List PV) : Option Nat := match decide (a = 20) with | true => dN0 r | false => none
noncomputable def aE0 (s : PV) : Option Nat := match s with
 | .tup (.int a :: r) => labI a r
 | _ => none
noncomputable def Flat (s : PV) : Prop := (∃ l, s = cLab l) ∨ ∃ a r, s = .tup (.int a :: r) /\ a ≠ 20
noncomputable def mkD : List PV -> Nat -> List (PV × MV) -> List (PV × MV)
 | [], _, d => d
 | s :: r, p, d => mkD r (p + 1) (match aE0 s with | some l => dput (pn l) (.p (pn p)) d | none => d)
noncomputable def aU7 : List PV -> Nat
 | [] => 0
 | s :: r => (match aE0 s with | some _ => 1 | none => 0) + aU7 r
theorem bD6 {a : Int} {r : List PV} (h : a ≠ 20) : aE0 (.tup (.int a :: r)) = none := by
 show (match decide (a = 20) with | true => dN0 r | false => none) = none
 rw [decide_eq_false h]
theorem cF2 (r : List PV) : ∀ {p d}, allK 0 d = true -> allK 0 (mkD r p d) = true := by
 induction r with
 | nil => exact fun h => h
 | cons s r ih =>
  intro p d h
  refine ih ?_
  cases aE0 s with
  | some l => exact aD2 (k := pn l) okn h
  | none => exact h
theorem bP6 (r : List PV) : ∀ {p d l}, allK 0 d = true -> (∀ s ∈ r, aE0 s ≠ some l) -> aA9 (pn l) (mkD r p d) = aA9 (pn l) d := by
 induction r with
 | nil => exact fun _ _ => rfl
 | cons s r ih =>
  intro p d l h q
  have q1 := q s (.head _)
  show aA9 (pn l) (mkD r (p + 1) (match aE0 s with | some l => dput (pn l) (.p (pn p)) d | none => d)) = _
  cases e : aE0 s with
  | none => exact ih h fun s hs => q s (.tail _ hs)
  | some l' =>
   refine (ih (aD2 (k := pn l') okn h) fun s hs => q s (.tail _ hs)).trans ((aS1 h).trans (if_neg fun z => q1 (e.trans (congrArg some z.symm))))
theorem cH6 (r : List PV) : ∀ {p d i l}, allK 0 d = true -> (r.filterMap aE0).Nodup -> r[i]? = some (cLab l) -> aA9 (pn l) (mkD r p d) = some (.p (pn (p + i))) := by
 induction r with
 | nil => exact fun _ _ q => nomatch q
 | cons s r ih =>
  intro p d i l h nd q
  show aA9 (pn l) (mkD r (p + 1) (match aE0 s with | some l => dput (pn l) (.p (pn p)) d | none => d)) = _
  have nd' : (r.filterMap aE0).Nodup := by
   rw [List.filterMap_cons] at nd
   cases e : aE0 s with
   | none => rw [e] at nd; exact nd
   | some a => rw [e] at nd; exact (List.nodup_cons.mp nd).2
  have h' : allK 0 (match aE0 s with | some l => dput (pn l) (.p (pn p)) d | none => d) = true := by
   cases aE0 s with
   | none => exact h
   | some a => exact aD2 (k := pn a) okn h
  cases i with
  | succ i => exact (ih h' nd' q).trans (congrArg (fun x => some (MV.p (pn x))) (by lia))
  | zero =>
   cases (show s = cLab l from zzC q)
   have e : aE0 (cLab l) = some l := rfl
   rw [List.filterMap_cons, e] at nd
   refine (bP6 r h' fun s hs z => (List.nodup_cons.mp nd).1 (List.mem_filterMap.mpr ⟨s, hs, z⟩)).trans ?_
   rw [e]
   exact (aS1 h).trans (if_pos rfl)
section
variable {P : PI} {G : Orc} {g : Sg} {z : Nat} {e : En} {w : FD} {tl : Mem} {c c' : Nat} {st : MV} {L : List PV} {j : Nat} {K : Kt MV}
theorem Rw.mark {M : List (PV × MV)} {m : Nat} (R : Rw g (z + m) e w tl c) (hc : c' <= c + 10 * m) : Rw { g with kp := (tl.length, M) :: g.kp, u := w.turns } z e w (tl ++ [.dict M]) c' where
 at_ := R.at_
 out := R.out
 vars := R.vars
 keys := R.keys
 live := ex1 R.live fun js q => ⟨js, q.1, q.2.1, q.2.2.1, fun k on cnt h => ex1 (q.2.2.2 k on cnt h) fun j y => ⟨j, y.1, (zzH (zzA.mp y.2).1).trans y.2⟩⟩
 specs := R.specs
 tape := R.tape
 thr := R.thr
 ac := by have := R.ac; unfold Ac at *; lia
 tpl := R.tpl
 spl := R.spl
 cnts := R.cnts
 extra := R.extra
 kept := fun x q => (List.mem_cons.mp q).elim (fun z => by subst z; exact zzO) fun q => (zzH (zzA.mp (R.kept x q)).1).trans (R.kept x q)
 low := Int.le_refl _
theorem Rw.unmark {M : List (PV × MV)} {u : Int} (R : Rw { g with kp := (j, M) :: g.kp, u := u } z e w tl c) (h : g.u <= u) : Rw g z e w tl c :=
 ⟨R.at_, R.out, R.vars, R.keys, R.live, R.specs, R.tape, R.thr, R.ac, R.tpl, R.spl, R.cnts, R.extra, fun x q => R.kept x (.tail _ q), Int.le_trans h R.low⟩
theorem y_lab {l : Nat} {A B : Mem -> Nat -> Prop} {m : Mem} : getI (.p (cLab l)) (i_ 0) (fun a => cmpE a (i_ 20) (fun x => truK x (fun b m c => br b (A m c) (B m c)))) m c = A m c := by kernel_rfl
theorem y_code {a : Int} {r : List PV} {A B : Mem -> Nat -> Prop} {m : Mem} : getI (.p (.tup (.int a :: r))) (i_ 0) (fun a => cmpE a (i_ 20) (fun x => truK x (fun b m c => br b (A m c) (B m c)))) m c = br (decide (a = 20)) (A m c) (B m c) := by kernel_rfl
theorem y_lab1 {l : Nat} {K : Kt MV} {m : Mem} : getI (.p (cLab l)) (i_ 1) K m c = K (.p (pn l)) m c := by kernel_rfl
noncomputable def dS8 (s : PV) : Nat := match aE0 s with | some _ => 1 | none => 0
noncomputable def mkD1 (s : PV) (p : Nat) (d : List (PV × MV)) : List (PV × MV) := match aE0 s with | some l => dput (pn l) (.p (pn p)) d | none => d
theorem cD6 {l p : Nat} {d : List (PV × MV)} (hd : allK 0 d = true) {K : Kt Unit} (q : K () (FW w (tl ++ [.dict (dput (pn l) (i_ p) d)])) (c + 1)) : setI (.obj (tl.length + 7)) (.p (pn l)) (i_ p) K (FW w (tl ++ [.dict d])) c := by
 show (match (tl ++ [MO.dict d])[tl.length]? with | some (.pl l) => _ | some (.dict es) => _ | _ => False)
 rw [zzO]
 show chk (aA8 (pn l) d) (K () ((FW w (tl ++ [.dict d])).set (tl.length + 7) (.dict (dput (pn l) (i_ p) d))) (c + 1))
 rw [aC6 hd, show (FW w (tl ++ [.dict d])).set (tl.length + 7) (.dict (dput (pn l) (i_ p) d)) = FW w (tl ++ [.dict (dput (pn l) (i_ p) d)]) from congrArg (FW w) (by rw [List.set_append_right _ _ (nR _), Nat.sub_self]; rfl)]
 exact q
noncomputable def Rd (st : MV) (L : List PV) (w : FD) : Prop := ∀ (p : Nat) (s : PV) (tl : Mem) (c : Nat) (K : Kt MV), L[p]? = some s -> K (.p s) (FW w tl) c -> getI st (i_ p) K (FW w tl) c
theorem cI1 {s : PV} {p : Nat} {d : List (PV × MV)} {K : Kt (Flw × Loc)} (hg : Rd st L w) (hs : L[p]? = some s) (hf : Flat s) (hd : allK 0 d = true)
  (q : K (.next, locM st (.obj (tl.length + 7)) [(V "place", i_ p)]) (FW w (tl ++ [.dict (mkD1 s p d)])) (c + dS8 s)) : mk1 st (.obj (tl.length + 7)) (i_ p) K (FW w (tl ++ [.dict d])) c := by
 refine hg p s _ _ _ hs ?_
 refine hf.elim (fun y => ex1 y fun l y => ?_) fun y => ex2 y fun a t y => ?_
 ·subst y
  refine y_lab.mpr (hg p _ _ _ _ hs (y_lab1.mpr (cD6 hd q)))
 ·obtain ⟨rfl, h⟩ := y
  refine y_code.mpr (decF h ?_)
  unfold mkD1 dS8 at q
  rw [bD6 h] at q
  exact q
theorem aK2 {f : MV -> Loc -> PT (Flw × Loc)} {k : Kt (Flw × Loc)} {p n : Nat} {loc : Loc} {m : Mem} : forL f k ((List.range' p (n + 1)).map fun (i : Nat) => i_ i) loc m c = f (i_ p) loc (turn k (forL f k ((List.range' (p + 1) n).map fun (i : Nat) => i_ i))) m c := rfl
theorem cC3 (hg : Rd st L w) (k : Kt (Flw × Loc)) (r : List PV) : ∀ {p d c v}, (∀ i, r[i]? = L[p + i]?) -> (∀ s ∈ r, Flat s) -> allK 0 d = true ->
  (∀ v, k (.next, locM st (.obj (tl.length + 7)) [(V "place", v)]) (FW w (tl ++ [.dict (mkD r p d)])) (c + aU7 r)) ->
  forL (mkB P G) k ((List.range' p r.length).map fun (i : Nat) => i_ i) (locM st (.obj (tl.length + 7)) [(V "place", v)]) (FW w (tl ++ [.dict d])) c := by
 induction r with
 | nil => exact fun _ _ _ q => q _
 | cons s r ih =>
  intro p d c v hr hf hd q
  rw [List.length_cons, aK2, dX2]
  refine cI1 hg (hr 0).symm (hf s (.head _)) hd ?_
  show forL (mkB P G) k _ _ _ _
  refine ih (fun i => (hr (i + 1)).trans (congrArg (L[·]?) (by lia))) (fun s hs => hf s (.tail _ hs)) ?_ fun v => ?_
  ·unfold mkD1
   cases aE0 s with
   | none => exact hd
   | some a => exact aD2 (k := pn a) okn hd
  ·rw [Nat.add_assoc]; exact q v
theorem cW2 {o : MO} : FW w tl ++ [o] = FW w (tl ++ [o]) := rfl
theorem dK3 : (FW w tl).length = tl.length + 7 := rfl
theorem bR3 {n : Nat} {m : Mem} : aX8 "range" (i_ n) K m c = chk (Nat.blt n 1000000) (K (.rng n) m c) := rfl
theorem bQ0 {f : MV -> Loc -> PT (Flw × Loc)} {k : Kt (Flw × Loc)} {n : Nat} {loc : Loc} {m : Mem} : forV f (.rng n) loc k m c = forL f k ((List.range n).map fun (i : Nat) => i_ i) loc m c := rfl
theorem bE7 {loc : Loc} {m : Mem} : mkK P G K (.next, loc) m c = ∃ n, aQ0 P G n (blkK K) (setL (V "at") (i_ 0) loc) m c := rfl
theorem dR1 {st mk : MV} : setL (V "at") (i_ 0) (locM st mk []) = locM st mk [(V "at", i_ 0)] := by kernel_rfl
theorem dS0 {st mk v : MV} : setL (V "at") (i_ 0) (locM st mk [(V "place", v)]) = locT st mk v 0 [] := by kernel_rfl
theorem bG {Ga : Orc} {n : Nat} {m : Nat} (hl : ∀ (tl : Mem) (c : Nat) (K : Kt MV), K (i_ L.length) (FW w tl) c -> aP st K (FW w tl) c) (hg : Rd st L w) (hn : L.length < 1000000) (hf : ∀ s ∈ L, Flat s) (hm : aU7 L <= 10 * m) (R : Rw g (z + m) e w tl c)
  (hx : st = .p (.tup L) ∨ (st = .obj 6 /\ g.ex = L)) (q0 : L = [] -> st = .p (.tup []) -> Lk g z e K n_)
  (q : ∀ (j : Nat) (M : List (PV × MV)) (u : Int), M = mkD L 0 [] -> g.u <= u -> Fx { g with kp := (j, M) :: g.kp, u := u } st L j M -> Wp P Ga n st j K { g with kp := (j, M) :: g.kp, u := u } z 0 e) (hne : L = [] -> st = .p (.tup [])) :
  run P HF (Gj P Ga (n + 9)) 0 xFl [.obj 0, st] K (FW w tl) c := by
 rw [dR7, cW2, dK3]
 refine hl _ _ _ ?_
 rw [bR3, show Nat.blt L.length 1000000 = true from zzI hn]
 show forV _ (.rng L.length) _ _ _ _
 rw [bQ0, List.range_eq_range']
 have R1 : Rw { g with kp := (tl.length, mkD L 0 []) :: g.kp, u := w.turns } z e w (tl ++ [.dict (mkD L 0 [])]) (c + aU7 L) := R.mark (by lia)
 cases L with
 | nil =>
  have hs := hne rfl
  subst hs
  show mkK P (Gj P Ga (n + 9)) K _ _ _
  rw [bE7]
  refine ⟨1, ?_⟩
  rw [dR1, dG4]
  exact q0 rfl rfl _ _ _ ((R1.unmark R.low).le (nR _))
 | cons s r =>
  rw [List.length_cons, aK2, eA1]
  refine cI1 (p := 0) hg rfl (hf s (.head _)) rfl ?_
  show forL (mkB P (Gj P Ga (n + 9))) _ _ _ _ _
  refine cC3 hg _ r (fun i => congrArg ((s :: r)[·]?) (show i + 1 = 0 + 1 + i by lia)) (fun s hs => hf s (.tail _ hs)) ?_ fun v => ?_
  ·unfold mkD1
   cases aE0 s with
   | none => rfl
   | some a => exact aD2 (k := pn a) okn rfl
  ·have F : Fx { g with kp := (tl.length, mkD (s :: r) 0 []) :: g.kp, u := w.turns } st (s :: r) tl.length (mkD (s :: r) 0 []) := ⟨hx, hn, .head _, cF2 _ rfl⟩
   have := q tl.length _ w.turns rfl R.low F w.turns w (tl ++ [.dict (mkD (s :: r) 0 [])]) (c + aU7 (s :: r)) (20001 - w.turns).toNat v [] (Int.le_refl _) R1 (by lia) (.inl rfl)
   rw [Nat.add_assoc, bE7, dS0]
   exact ⟨_, this⟩
end
structure LF (l : List PV) (a b n : Nat) : Prop where
 nd : (l.filterMap aE0).Nodup
 bd : ∀ x ∈ l.filterMap aE0, a < x /\ x <= b
 flat : ∀ s ∈ l, Flat s
 cnt : aU7 l + a <= b
 len : l.length <= n
noncomputable def Fl1 (s : PV) : Prop := ∃ a r, s = .tup (.int a :: r) /\ a ≠ 20
section
variable {l l' : List PV} {a b c d n m x : Nat} {s : PV}
theorem aY3 : aU7 (l ++ l') = aU7 l + aU7 l' := by
 induction l with
 | nil => exact (Nat.zero_add _).symm
 | cons s r ih => exact (congrArg _ ih).trans (Nat.add_assoc ..).symm
theorem LF.up (h : LF l a b n) (h' : LF l' c d m) (q : b <= c) : LF (l ++ l') a d (n + m) where
 nd := by
  rw [List.filterMap_append]
  exact List.nodup_append.mpr ⟨h.nd, h'.nd, fun x hx y hy e => by have := h.bd x hx; have := h'.bd y hy; lia⟩
 bd := by
  rw [List.filterMap_append]
  exact fun x hx => (zzP.mp hx).elim (fun z => by have := h.bd x z; have := h'.cnt; lia) fun z => by have := h'.bd x z; have := h.cnt; lia
 flat := fun s hs => (zzP.mp hs).elim (h.flat s) (h'.flat s)
 cnt := by have := h.cnt; have := h'.cnt; rw [aY3]; lia
 len := by have := h.len; have := h'.len; rw [zzB]; lia
theorem LF.down (h : LF l c d n) (h' : LF l' a b m) (q : b <= c) : LF (l ++ l') a d (n + m) where
 nd := by
  rw [List.filterMap_append]
  exact List.nodup_append.mpr ⟨h.nd, h'.nd, fun x hx y hy e => by have := h.bd x hx; have := h'.bd y hy; lia⟩
 bd := by
  rw [List.filterMap_append]
  exact fun x hx => (zzP.mp hx).elim (fun z => by have := h.bd x z; have := h'.cnt; lia) fun z => by have := h'.bd x z; have := h.cnt; lia
 flat := fun s hs => (zzP.mp hs).elim (h.flat s) (h'.flat s)
 cnt := by have := h.cnt; have := h'.cnt; rw [aY3]; lia
 len := by have := h.len; have := h'.len; rw [zzB]; lia
theorem LF.nil (q : a <= b) : LF [] a b 0 := ⟨List.nodup_nil, fun _ h => (nomatch h), fun _ h => (nomatch h), by show 0 + a <= b; lia, nR _⟩
theorem LF.one (h : Fl1 s) (q : a <= b) : LF [s] a b 1 := by
 obtain ⟨k, r, rfl, hk⟩ := h
 have e : aE0 (.tup (.int k :: r)) = none := bD6 hk
 have e2 : [PV.tup (.int k :: r)].filterMap aE0 = [] := by rw [List.filterMap_cons, e]; rfl
 exact ⟨e2 ▸ List.nodup_nil, fun x hx => (nomatch e2 ▸ hx), fun s hs => by rw [zzJ.mp hs]; exact .inr ⟨k, r, rfl, hk⟩, by show (match aE0 (.tup (.int k :: r)) with | some _ => 1 | none => 0) + 0 + a <= b; rw [e]; lia, nR _⟩
theorem LF.lab (h1 : a < x) (h2 : x <= b) : LF [cLab x] a b 1 :=
 ⟨List.nodup_cons.mpr ⟨fun h => (nomatch h), List.nodup_nil⟩, fun y hy => by cases zzJ.mp (show y ∈ [x] from hy); exact ⟨h1, h2⟩, fun s hs => by rw [zzJ.mp hs]; exact .inl ⟨x, rfl⟩, by show 1 + 0 + a <= b; lia, nR _⟩
theorem LF.lb (a : Nat) : LF [cLab (a + 1)] a (a + 1) 1 := LF.lab (zzb a) (nR _)
theorem LF.more (h : LF l a b n) (q : n <= m) : LF l a b m := ⟨h.nd, h.bd, h.flat, h.cnt, nT h.len q⟩
end
noncomputable def nl : T -> Nat
 | .nil => 0
 | .cons s r => nl s + nl r
 | .blk l => nl l
 | .ex _ => 0
 | .jump _ => 0
 | .ask y n => 2 + nl y + nl n
 | .whil _ b => 3 + nl b
 | .dow _ b => 3 + nl b
 | .for_ _ _ _ _ b => 4 + nl b
 | .try_ _ b h l => nl b + nl h + nl l
 | .usg _ _ b => nl b + 1
 | .arr _ _ _ b => 4 + nl b
 | .pat _ _ _ _ b => 4 + nl b
noncomputable def ln : T -> Nat
 | .nil => 0
 | .cons s r => ln s + ln r
 | .blk l => ln l
 | .ex _ => 1
 | .jump _ => 1
 | .ask y n => 1 + (ln y + (1 + 1) + (ln n + 1))
 | .whil _ b => 1 + 1 + (ln b + (1 + (1 + 1)))
 | .dow _ b => 1 + (ln b + (1 + (1 + 1)))
 | .for_ _ _ _ _ b => 1 + (1 + 1) + (ln b + (1 + (1 + (1 + 1)) + (1 + 1)))
 | .try_ _ b h l => 1 + ln b + ln h + ln l
 | .usg _ _ b => 1 + 1 + ln b
 | .arr _ _ _ b => 1 + (1 + (1 + (1 + 1))) + (ln b + (1 + (1 + (1 + (1 + 1)))))
 | .pat _ _ _ _ b => 1 + (1 + (1 + 1) + (ln b + (1 + (1 + 1))))
section
variable {a b : Nat}
theorem f1 {k : Int} {r : List PV} (h : k ≠ 20) : Fl1 (.tup (.int k :: r)) := ⟨k, r, rfl, h⟩
theorem lf_x (x : Sx) (q : a <= b) : LF [sX x] a b 1 := LF.one (by cases x <;> exact f1 (by decide)) q
theorem bL1 (t : Tst) (l : Nat) (q : a <= b) : LF (cTst t l) a b 1 := by
 cases t with
 | ask => exact LF.one (f1 (by decide)) q
 | zero => exact (LF.nil q).more (by decide)
 | one => exact LF.one (f1 (by decide)) q
 | non => exact LF.one (f1 (by decide)) q
theorem lf_c {s : PV} (l : List PV) {n : Nat} (h : Fl1 s) (k : LF l a b n) : LF (s :: l) a b (1 + n) := (LF.one h (nR a)).up k (nR a)
theorem lf_D (v l vc sort : Nat) : LF (lowD v l vc sort).1 l (lowD v l vc sort).2.1 4 /\ (lowD v l vc sort).2.1 <= l + 1 /\ vc <= (lowD v l vc sort).2.2 := by
 have lab := LF.lb (l)
 unfold lowD
 split
 ·exact ⟨lf_c _ (f1 (by decide)) (lf_c _ (f1 (by decide)) (lf_c _ (f1 (by decide)) lab)), nR _, nA _ _⟩
 ·exact ⟨(lf_c _ (f1 (by decide)) (lf_c _ (f1 (by decide)) lab)).more (by decide), nR _, nR _⟩
 ·exact ⟨(LF.one (f1 (by decide)) (nR l)).more (by decide), nA _ _, nR _⟩
 ·exact ⟨(LF.one (f1 (by decide)) (nR l)).more (by decide), nA _ _, nR _⟩
theorem lf_U (lid l w : Nat) (h : a < l) (h2 : l <= b) : LF (lowU lid l w) a b 3 := by
 have lab := LF.lab h h2
 unfold lowU
 split
 ·exact (lf_c _ (f1 (by decide)) lab).more (by decide)
 ·exact lf_c _ (f1 (by decide)) (lf_c _ (f1 (by decide)) lab)
end
theorem bU8 {lc d n : Nat} {b : List PV} (lid : Nat) (w : Bool) (sort v : Nat) (h : LF b (lc + 3) d n) : LF (lowR lid w sort v lc b) lc d (1 + (1 + 1) + (n + (1 + (1 + 1)))) := by
 have l1 := lf_c _ (s := cGo (lc + 2)) (f1 (by decide)) ((LF.lb lc).up (LF.one (s := cNow lid w v sort) (f1 (by decide)) (nR (lc + 1))) (nR _))
 have l2 := (LF.lb (lc + 1)).up (lf_c _ (s := cIf (aI5 v sort) 1 (lc + 1)) (f1 (by decide)) (LF.lb (lc + 2))) (nR _)
 exact l1.up (h.down l2 (nR _)) (nR _)
theorem dI1 {lc c d c' n m : Nat} {x z : List PV} (vx vz : Nat) (b : Bool) (h1 : LF x (lc + 1) c n) (h2 : LF z (c + 1) d m) (hc : lc + 1 <= c) (hd : c + 1 <= d) : LF (askL b (x, c, vx) (z, d, vz) lc).1 lc (askL b (x, c, vx) (z, d, vz) lc).2.1 (1 + (n + (1 + 1) + (m + 1))) := by
 have hg : ∀ b l, LF (goIf b l) lc lc 1 := fun b l => by cases b <;> first | exact (LF.nil (nR _)).more (by decide) | exact LF.one (f1 (by decide)) (nR _)
 cases b with
 | true => exact (lf_c _ (f1 (by decide)) (h1.down (LF.lb lc) (nR _))).more (by lia)
 | false => exact lf_c _ (f1 (by decide)) ((h1.down ((hg _ _).up (LF.lb lc) (nR _)) (nR _)).up (h2.down (LF.lb c) (nR _)) (nR _))
theorem aE7 (t : T) : ∀ tb ta lc vc, LF (low t tb ta lc vc).1 lc (low t tb ta lc vc).2.1 (ln t) /\ (low t tb ta lc vc).2.1 <= lc + nl t /\ vc <= (low t tb ta lc vc).2.2 := by
 induction t with
 | nil => exact fun tb ta lc vc => ⟨LF.nil (nR _), nR _, nR _⟩
 | cons s r i1 i2 =>
  intro tb ta lc vc
  have h1 := i1 tb ta lc vc
  have h2 := i2 tb ta (low s tb ta lc vc).2.1 (low s tb ta lc vc).2.2
  exact ⟨h1.1.up h2.1 (nR _), nT h2.2.1 (by show _ <= lc + (nl s + nl r); have := h1.2.1; lia), nT h1.2.2 h2.2.2⟩
 | blk l ih => exact ih
 | ex x => exact fun tb ta lc vc => ⟨lf_x x (nR _), nR _, nR _⟩
 | jump j => exact fun tb ta lc vc => by cases j <;> exact ⟨LF.one (f1 (by decide)) (nR _), nR _, nR _⟩
 | ask y n i1 i2 =>
  intro tb ta lc vc
  have h1 := i1 tb ta (lc + 1) vc
  have h2 := i2 tb ta ((low y tb ta (lc + 1) vc).2.1 + 1) (low y tb ta (lc + 1) vc).2.2
  have q := h1.1.cnt; have q2 := h2.1.cnt
  have e : nl (.ask y n) = 2 + nl y + nl n := rfl
  refine ⟨dI1 (c' := 0) _ _ (aF7 n) h1.1 h2.1 (by lia) (by lia), ?_⟩
  show (askL (aF7 n) (low y tb ta (lc + 1) vc) (low n tb ta ((low y tb ta (lc + 1) vc).2.1 + 1) (low y tb ta (lc + 1) vc).2.2) lc).2.1 <= lc + nl (.ask y n) /\ vc <= (askL (aF7 n) (low y tb ta (lc + 1) vc) (low n tb ta ((low y tb ta (lc + 1) vc).2.1 + 1) (low y tb ta (lc + 1) vc).2.2) lc).2.2
  cases aF7 n with
  | true => exact ⟨nT h1.2.1 (by lia), h1.2.2⟩
  | false => exact ⟨nT h2.2.1 (by have := h1.2.1; lia), nT h1.2.2 h2.2.2⟩
 | whil t b ih =>
  intro tb ta lc vc
  have h := ih (lc + 3) (lc + 2) (lc + 3) vc
  have hn : nl (.whil t b) = 3 + nl b := rfl
  have l1 := lf_c (cLab (lc + 1) :: []) (s := cGo (lc + 2)) (f1 (by decide)) (LF.lb (lc))
  have l2 := (LF.lb (lc + 1)).up ((bL1 t (lc + 1) (nR (lc + 2))).up (LF.lb (lc + 2)) (nR _)) (nR _)
  exact ⟨l1.up (h.1.down l2 (nR _)) (nR _), nT h.2.1 (by lia), h.2.2⟩
 | dow t b ih =>
  intro tb ta lc vc
  have h := ih (lc + 3) (lc + 2) (lc + 3) vc
  have hn : nl (.dow t b) = 3 + nl b := rfl
  have l1 := LF.lb (lc)
  have l2 := (LF.lb (lc + 1)).up ((bL1 t (lc + 1) (nR (lc + 2))).up (LF.lb (lc + 2)) (nR _)) (nR _)
  exact ⟨l1.up (h.1.down l2 (nR _)) (nR _), nT h.2.1 (by lia), h.2.2⟩
 | for_ e1 t e2 e3 b ih =>
  intro tb ta lc vc
  have h := ih (lc + 4) (lc + 2) (lc + 4) vc
  have hn : nl (.for_ e1 t e2 e3 b) = 4 + nl b := rfl
  have l1 := lf_c _ (s := sX (.say e1)) (f1 (by decide)) (lf_c (cLab (lc + 1) :: []) (s := cGo (lc + 3)) (f1 (by decide)) (LF.lb (lc)))
  have l2 := (LF.lb (lc + 1)).up (lf_c _ (s := sX (.say e2)) (f1 (by decide)) (lf_c _ (s := sX (.say e3)) (f1 (by decide)) (LF.lb (lc + 2)))) (nR _)
  have l3 := (bL1 t (lc + 1) (nR (lc + 3))).up (LF.lb (lc + 3)) (nR _)
  exact ⟨l1.up (h.1.down (l2.up l3 (nR _)) (nR _)) (nR _), nT h.2.1 (by lia), h.2.2⟩
 | try_ lid b hh l i1 i2 i3 =>
  intro tb ta lc vc
  have h1 := i1 tb ta lc vc
  have h2 := i2 tb ta (low b tb ta lc vc).2.1 (low b tb ta lc vc).2.2
  have h3 := i3 tb ta (low hh tb ta (low b tb ta lc vc).2.1 (low b tb ta lc vc).2.2).2.1 (low hh tb ta (low b tb ta lc vc).2.1 (low b tb ta lc vc).2.2).2.2
  have hn : nl (.try_ lid b hh l) = nl b + nl hh + nl l := rfl
  have hl : ln (.try_ lid b hh l) = 1 + ln b + ln hh + ln l := rfl
  have q1 := h1.1.cnt; have q2 := h2.1.cnt; have q3 := h3.1.cnt
  have q := nT (nT (nT (zzE _ _) q1) (nT (zzE _ _) q2)) (nT (zzE _ _) q3)
  exact ⟨(LF.one (f1 (by decide)) q).more (by lia), nT h3.2.1 (by have := h1.2.1; have := h2.2.1; lia), nT h1.2.2 (nT h2.2.2 h3.2.2)⟩
 | usg w lid b ih =>
  intro tb ta lc vc
  have h := ih tb ta lc vc
  have q := h.1.cnt
  exact ⟨(lf_c _ (f1 (by decide)) (LF.one (f1 (by decide)) (show lc <= (low b tb ta lc vc).2.1 + 1 by lia))).more (nA _ _), zzd h.2.1, h.2.2⟩
 | arr lid wide src b ih =>
  intro tb ta lc vc
  have h := ih (lc + 4) (lc + 2) (lc + 4) (vc + 2)
  have hn : nl (.arr lid wide src b) = 4 + nl b := rfl
  have l1 := lf_c _ (s := cArr (vc + 1) src) (f1 (by decide)) (lf_c _ (s := cIdx (vc + 2)) (f1 (by decide)) (lf_c _ (s := cGo (lc + 3)) (f1 (by decide)) ((LF.lb (lc)).up (LF.one (s := aL4 lid wide (vc + 1) (vc + 2)) (f1 (by decide)) (nR (lc + 1))) (nR _))))
  have l2 := (LF.lb (lc + 1)).up (lf_c _ (s := cInc (vc + 2)) (f1 (by decide)) ((LF.lb (lc + 2)).up (lf_c _ (s := cIf (aQ1 (vc + 2) (vc + 1)) 1 (lc + 1)) (f1 (by decide)) (LF.lb (lc + 3))) (nR _))) (nR _)
  exact ⟨l1.up (h.1.down l2 (nR _)) (nR _), nT h.2.1 (by lia), nT (nA _ _) h.2.2⟩
 | pat lid wide sort idx b ih =>
  intro tb ta lc vc
  have h := ih (lc + 3) (lc + 2) (lc + 3) (vc + 1)
  have hn : nl (.pat lid wide sort idx b) = 4 + nl b := rfl
  have hl : ln (.pat lid wide sort idx b) = 1 + (1 + (1 + 1) + (ln b + (1 + (1 + 1)))) := rfl
  have c := bU8 lid wide sort (vc + 1) h.1
  have hd := lf_D (vc + 1) (low b (lc + 3) (lc + 2) (lc + 3) (vc + 1)).2.1 (low b (lc + 3) (lc + 2) (lc + 3) (vc + 1)).2.2 sort
  have q := h.1.cnt; have q2 := hd.1.cnt
  show LF (patL (hasD sort) _ _ (low b (lc + 3) (lc + 2) (lc + 3) (vc + 1)) (lowD _ _ _ sort)).1 lc (patL (hasD sort) _ _ (low b (lc + 3) (lc + 2) (lc + 3) (vc + 1)) (lowD _ _ _ sort)).2.1 _ /\ (patL (hasD sort) _ _ (low b (lc + 3) (lc + 2) (lc + 3) (vc + 1)) (lowD _ _ _ sort)).2.1 <= _ /\ vc <= (patL (hasD sort) _ _ (low b (lc + 3) (lc + 2) (lc + 3) (vc + 1)) (lowD _ _ _ sort)).2.2
  cases hasD sort with
  | true => exact ⟨(lf_c _ (f1 (by decide)) (LF.one (f1 (by decide)) (show lc <= (lowD _ _ _ sort).2.1 by lia))).more (by rw [hl]; lia), nT hd.2.1 (by lia), nT (nT (nA _ _) h.2.2) hd.2.2⟩
  | false => exact ⟨lf_c _ (f1 (by decide)) c, nT h.2.1 (by lia), nT (nA _ _) h.2.2⟩
noncomputable def Op (l : List PV) : Prop := ∃ r s, l = r ++ [s] /\ aA6 [s] = true
section
variable {l l' : List PV} {s : PV}
theorem Op.one (h : aA6 [s] = true) : Op [s] := ⟨[], s, rfl, h⟩
theorem Op.app (h : Op l') : Op (l ++ l') := ex2 h fun r s h => ⟨l ++ r, s, by rw [h.1, List.append_assoc], h.2⟩
theorem Op.cons (h : Op l) : Op (s :: l) := Op.app (l := [s]) h
theorem Op.ne (h : Op l) : l ≠ [] := fun e => ex2 h fun r s h => absurd (h.1.symm.trans e) (List.append_ne_nil_of_right_ne_nil _ (List.cons_ne_nil _ _))
theorem aO1 : aA6 (l ++ [s]) = aA6 [s] := by
 unfold aA6
 rw [List.getLast?_concat]; rfl
theorem Op.is (h : Op l) : aA6 l = true := ex2 h fun r s h => by rw [h.1, aO1]; exact h.2
theorem Op.lab {x : Nat} : Op [cLab x] := Op.one rfl
theorem aT5 (h : l' ≠ []) : aA6 (l ++ l') = aA6 l' := by
 rw [<- List.dropLast_concat_getLast h, <- List.append_assoc, aO1, aO1]
end
noncomputable def noN (K : KX) : KX := fun x e => match x with
 | .next => False
 | .brk => K .brk e
 | .cont => K .cont e
 | .ret v => K (.ret v) e
 | .thr v => K (.thr v) e
noncomputable def Opn (t : T) : Prop := ∀ tb ta lc vc, Op (low t tb ta lc vc).1
theorem aX2 {tp : List Bool} {sp : List Spec} (t : T) : ∀ tb ta lc vc, ((low t tb ta lc vc).1 = [] -> ∀ K e, X tp sp t K e -> K .next e) /\ (aA6 (low t tb ta lc vc).1 = false -> ∀ K e, X tp sp t K e -> X tp sp t (noN K) e) := by
 have op : ∀ {t : T}, Opn t -> ∀ tb ta lc vc, ((low t tb ta lc vc).1 = [] -> ∀ K e, X tp sp t K e -> K .next e) /\ (aA6 (low t tb ta lc vc).1 = false -> ∀ K e, X tp sp t K e -> X tp sp t (noN K) e) :=
  fun h tb ta lc vc => ⟨fun z => absurd z (h tb ta lc vc).ne, fun z => Bool.noConfusion (z.symm.trans (h tb ta lc vc).is)⟩
 induction t with
 | nil => exact fun tb ta lc vc => ⟨fun _ K e q => q, fun z => nomatch z⟩
 | blk l ih => exact ih
 | cons s r i1 i2 =>
  intro tb ta lc vc
  have h1 := i1 tb ta lc vc
  have h2 := i2 tb ta (low s tb ta lc vc).2.1 (low s tb ta lc vc).2.2
  refine ⟨fun z K e q => ?_, fun z K e q => ?_⟩
  ·exact h2.1 (List.append_eq_nil_iff.mp z).2 K e (h1.1 (List.append_eq_nil_iff.mp z).1 _ e q)
  ·have z : aA6 ((low s tb ta lc vc).1 ++ (low r tb ta (low s tb ta lc vc).2.1 (low s tb ta lc vc).2.2).1) = false := z
   by_cases hr : (low r tb ta (low s tb ta lc vc).2.1 (low s tb ta lc vc).2.2).1 = []
   ·rw [hr, List.append_nil] at z
    exact aB5 s _ _ _ (fun x e q => by cases x <;> first | exact q.elim | exact q) (h1.2 z _ e q)
   ·rw [aT5 hr] at z
    exact aB5 s _ _ _ (fun x e q => by cases x <;> first | exact h2.2 z K e q | exact q) q
 | ex x => exact op fun tb ta lc vc => by cases x <;> exact Op.one rfl
 | jump j => exact fun tb ta lc vc => ⟨fun z => (by cases j <;> exact (nomatch z)), fun z K e q => (by cases j <;> exact q)⟩
 | ask y n _ _ =>
  refine op fun tb ta lc vc => ?_
  show Op (askL (aF7 n) _ _ lc).1
  cases aF7 n with
  | true => exact Op.cons (Op.app Op.lab)
  | false => exact Op.cons (Op.app (Op.app Op.lab))
 | whil t b _ => exact op fun tb ta lc vc => Op.app (Op.app (Op.cons (Op.app Op.lab)))
 | dow t b _ => exact op fun tb ta lc vc => Op.cons (Op.app (Op.cons (Op.app Op.lab)))
 | for_ e1 t e2 e3 b _ => exact op fun tb ta lc vc => Op.app (Op.app (Op.app (Op.app Op.lab)))
 | try_ lid b h l _ _ _ => exact op fun tb ta lc vc => Op.one rfl
 | usg w lid b _ => exact op fun tb ta lc vc => Op.cons (Op.one rfl)
 | arr lid wide src b _ => exact op fun tb ta lc vc => Op.app (Op.app (Op.app (l := [_, _, _, _]) Op.lab))
 | pat lid wide sort idx b _ =>
  refine op fun tb ta lc vc => ?_
  show Op (patL (hasD sort) _ _ _ _).1
  cases hasD sort with
  | true => exact Op.cons (Op.one rfl)
  | false => exact Op.cons (Op.app (Op.app (Op.app (l := [_, _]) Op.lab)))
noncomputable def En.plus (e : En) (n0 : Nat) (tm : Nat -> Option PV) : En := { e with vars := fun i => match Nat.ble i n0 with | true => e.vars i | false => tm i }
noncomputable def put1 (tm : Nat -> Option PV) (i : Nat) (v : PV) : Nat -> Option PV := fun k => match Nat.beq k i with | true => some v | false => tm k
section
variable {e : En} {n0 i : Nat} {tm : Nat -> Option PV} {v : PV}
theorem bH3 {e : En} {f h : Nat -> Option PV} (q : ∀ k, f k = h k) : ({ e with vars := f } : En) = { e with vars := h } := congrArg (fun f => ({ e with vars := f } : En)) (funext q)
theorem aU6 (h : i <= n0) : (e.set i v).plus n0 tm = (e.plus n0 tm).set i v := bH3 fun k => by
 show (match Nat.ble k n0 with | true => (match Nat.beq k i with | true => some v | false => e.vars k) | false => tm k) = (match Nat.beq k i with | true => some v | false => (match Nat.ble k n0 with | true => e.vars k | false => tm k))
 cases hi : Nat.beq k i with
 | true => rw [zzI (zzX hi ▸ h)]
 | false => rfl
theorem cE9 (h : n0 < i) : e.plus n0 (put1 tm i v) = (e.plus n0 tm).set i v := bH3 fun k => by
 show (match Nat.ble k n0 with | true => e.vars k | false => (match Nat.beq k i with | true => some v | false => tm k)) = (match Nat.beq k i with | true => some v | false => (match Nat.ble k n0 with | true => e.vars k | false => tm k))
 cases hi : Nat.beq k i with
 | true => cases hk : Nat.ble k n0 with
  | true => exact absurd (zzU hk) (by have := zzX hi; lia)
  | false => rfl
 | false => rfl
theorem aU0 (h : i <= n0) : (e.plus n0 tm).vars i = e.vars i := by
 show (match Nat.ble i n0 with | true => e.vars i | false => tm i) = _
 rw [zzI h]
theorem aB8 (h : n0 < i) : (e.plus n0 tm).vars i = tm i := by
 show (match Nat.ble i n0 with | true => e.vars i | false => tm i) = _
 cases hk : Nat.ble i n0 with
 | true => exact absurd (zzU hk) (by lia)
 | false => rfl
theorem aL2 : put1 tm i v i = some v := by unfold put1; rw [Nat.beq_refl]
theorem bS5 {k : Nat} (h : k ≠ i) : put1 tm i v k = tm k := by
 unfold put1
 cases hi : Nat.beq k i with
 | true => exact absurd (zzX hi) h
 | false => rfl
end
@[irreducible] noncomputable def GaF (P : PI) : Nat -> Orc
 | 0 => fun _ _ _ _ _ _ => False
 | k + 1 => fun x f args K m c => x = V "" /\ f = xFl /\ run P HF (Gj P (GaF P k) 9) 0 xFl args K m c
theorem aU5 {P : PI} {k : Nat} {x f : Str} {args : List MV} {K : Kt MV} {m : Mem} {c : Nat} : GaF P (k + 1) x f args K m c = (x = V "" /\ f = xFl /\ run P HF (Gj P (GaF P k) 9) 0 xFl args K m c) := by kernel_rfl
structure Cz where
 P : PI
 k : Nat
 st : MV
 j : Nat
 M : List (PV × MV)
 L : List PV
 K : Kt MV
 g : Sg
 n0 : Nat
structure Cz.Ok (x : Cz) : Prop where
 F : Fx x.g x.st x.L x.j x.M
 hm : ∀ p l, x.L[p]? = some (cLab l) -> aA9 (pn l) x.M = some (.p (pn p))
noncomputable abbrev Tm := Nat -> Option PV
noncomputable def Cz.W (x : Cz) (z p : Nat) (e : En) (tm : Tm) : Prop := Wp x.P (GaF x.P x.k) 0 x.st x.j x.K x.g z p (e.plus x.n0 tm)
noncomputable def Cz.J (x : Cz) (z l : Nat) (e : En) (tm : Tm) : Prop := Jw x.P (GaF x.P x.k) 0 x.st x.j x.K x.g z l (e.plus x.n0 tm)
noncomputable def Cz.E (x : Cz) (z : Nat) (e : En) (tm : Tm) (v : MV) : Prop := Lk x.g z (e.plus x.n0 tm) x.K v
noncomputable abbrev Cz.T (x : Cz) (z p : Nat) (e : En) (tm : Tm) (s : PV) : Prop := Tn x.P (GaF x.P x.k) 0 x.st x.j x.K x.g z p (e.plus x.n0 tm) s
noncomputable def Cz.X (x : Cz) (z q tb ta : Nat) (tm : Tm) : KX := fun r e => match r with
 | .next => x.W z q e tm
 | .brk => x.J z tb e tm
 | .cont => x.J z ta e tm
 | .ret v => x.E z e tm (rv (.ret v))
 | .thr v => x.E z e tm (rv (.thr v))
noncomputable def Seg (L : List PV) : Nat -> List PV -> Prop
 | _, [] => True
 | p, s :: l => L[p]? = some s /\ Seg L (p + 1) l
section
variable {x : Cz} {z z' p q l tb ta n i : Nat} {e : En} {tm tm' : Tm} {s : PV} {L a b : List PV} {g : Sg} {w : FD} {tl : Mem} {c : Nat} {r : Rs}
theorem Seg.app : ∀ {p}, Seg L p (a ++ b) -> Seg L p a /\ Seg L (p + a.length) b := by
 induction a with
 | nil => exact fun h => ⟨trivial, h⟩
 | cons s a ih => exact fun {p} h => ⟨⟨h.1, (ih h.2).1⟩, (show p + 1 + a.length = p + (a.length + 1) by lia) ▸ (ih h.2).2⟩
theorem Seg.all (l : List PV) : ∀ {p}, (∀ i, l[i]? = L[p + i]?) -> Seg L p l := by
 induction l with
 | nil => exact fun _ => trivial
 | cons s l ih => exact fun h => ⟨(h 0).symm, ih fun i => (h (i + 1)).trans (congrArg (L[·]?) (by lia))⟩
theorem Rw.fewer {f : Tm} (R : Rw g z e w tl c) (h : ∀ i v, f i = some v -> e.vars i = some v) : Rw g z { e with vars := f } w tl c :=
 ⟨R.at_, R.out, fun i v q => R.vars i v (h i v q), R.keys, R.live, R.specs, R.tape, R.thr, R.ac, R.tpl, R.spl, R.cnts, R.extra, R.kept, R.low⟩
theorem aG6 (h : ∀ i v, tm' i = some v -> tm i = some v) (n0 : Nat) (R : Rw g z (e.plus n0 tm) w tl c) : Rw g z (e.plus n0 tm') w tl c :=
 R.fewer (f := fun i => match Nat.ble i n0 with | true => e.vars i | false => tm' i) fun i v => by
  show _ -> (match Nat.ble i n0 with | true => e.vars i | false => tm i) = some v
  cases Nat.ble i n0 with
  | true => exact id
  | false => exact h i v
theorem W_le (h : z <= z') (q : x.W z p e tm) : x.W z' p e tm := fun u w tl c f pl r hu R hf hr => q u w tl c f pl r hu (R.le h) hf hr
theorem J_le (h : z <= z') (q : x.J z l e tm) : x.J z' l e tm := fun u w tl c f pl p hu R hf => q u w tl c f pl p hu (R.le h) hf
theorem E_le {v : MV} (h : z <= z') (q : x.E z e tm v) : x.E z' e tm v := fun w tl c R => q w tl c (R.le h)
theorem X_le (h : z <= z') (k : x.X z q tb ta tm r e) : x.X z' q tb ta tm r e := by
 cases r with
 | next => exact W_le h k
 | brk => exact J_le h k
 | cont => exact J_le h k
 | ret v => exact E_le h k
 | thr v => exact E_le h k
theorem W_tm (h : ∀ i v, tm' i = some v -> tm i = some v) (q : x.W z p e tm') : x.W z p e tm := fun u w tl c f pl r hu R hf hr => q u w tl c f pl r hu (aG6 h _ R) hf hr
theorem X_tm (h : ∀ i v, tm' i = some v -> tm i = some v) (k : x.X z q tb ta tm' r e) : x.X z q tb ta tm r e := by
 cases r with
 | next => exact W_tm h k
 | brk => exact fun u w tl c f pl p hu R hf => k u w tl c f pl p hu (aG6 h _ R) hf
 | cont => exact fun u w tl c f pl p hu R hf => k u w tl c f pl p hu (aG6 h _ R) hf
 | ret v => exact fun w tl c R => k w tl c (aG6 h _ R)
 | thr v => exact fun w tl c R => k w tl c (aG6 h _ R)
theorem aE8 (h : n <= e.gas) (q : x.W (z + n) p { e with gas := e.gas - n } tm) : x.W z p e tm := fun u w tl c f pl r hu R hf hr => q u w tl c f pl r hu (R.pay h) hf hr
variable (O : x.Ok)
include O
theorem aA2 (hs : x.L[p]? = some s) (q : x.T z p e tm s) : x.W (z + 4) p e tm := cR O.F hs q
theorem aC4 (hs : x.L[p]? = some (cLab l)) (q : x.W z (p + 1) e tm) : x.W (z + 4) p e tm := aA2 O hs (dN3 q)
theorem w_go (hs : x.L[p]? = some (cGo l)) (q : x.J z l e tm) : x.W (z + 4) p e tm := aA2 O hs (eB6 q)
theorem cF9 {ev : Int} (hs : x.L[p]? = some (sX (.say ev))) (h : ev_ ev) (q : x.W z (p + 1) (e.said ev) tm) : x.W (z + 5) p e tm := aA2 O hs (dC8 (.inl h) q)
theorem j_in (hs : x.L[p]? = some (cLab l)) (q : x.W z p e tm) : x.J z l e tm := eB3 O.F (O.hm p l hs) q
theorem aJ (hs : x.L[p]? = some (cLab l)) (q : x.W z (p + 1) e tm) : x.J (z + 4) l e tm := j_in O hs (aC4 O hs q)
theorem bN5 {t : Tst} {A B : En -> Prop} (S : Seg x.L p (cTst t l)) (k : tstX x.g.tp t e A B) (ha : ∀ e, A e -> x.J z l e tm) (hb : ∀ e, B e -> x.W z (p + (cTst t l).length) e tm) : x.W (z + 5) p e tm := by
 cases t with
 | ask =>
  refine aA2 O S.1 (cI8 (b := true) (fun d => ?_) fun d => ?_)
  ·refine ha (e.asked x.g.tp) ?_
   revert k; show (match ans x.g.tp e with | true => _ | false => _) -> _
   rw [show ans x.g.tp e = true from d]; exact id
  ·refine hb (e.asked x.g.tp) ?_
   revert k; show (match ans x.g.tp e with | true => _ | false => _) -> _
   rw [show ans x.g.tp e = false from Bool.eq_false_iff.mpr d]; exact id
 | zero => exact W_le (by lia) (hb _ k)
 | one => exact W_le (by lia) (w_go O S.1 (ha _ k))
 | non => exact W_le (by lia) (w_go O S.1 (ha _ k))
end
noncomputable def Cmp (n0 : Nat) (t : T) : Prop := ∀ {x : Cz}, x.Ok -> x.n0 = n0 -> ∀ {z p q tb ta lc vc : Nat} {tm : Tm} {e : En}, dep t <= x.k -> Seg x.L p (low t tb ta lc vc).1 -> p + (low t tb ta lc vc).1.length = q -> tb <= lc -> ta <= lc -> n0 <= vc -> (∀ i, vc < i -> tm i = none) ->
 X x.g.tp x.g.sp t (x.X z q tb ta tm) e -> x.W z p e tm
section
variable {x : Cz} {z z' p q pa pb tb ta n0 i bh ag : Nat} {e : En} {tm : Tm} {r : Rs} {A : En -> Prop}
theorem len_app {a b : List PV} : (a ++ b).length = a.length + b.length := zzB
theorem aU1 (O : x.Ok) (k : exX (x.X z q tb ta tm) A r e) (ha : x.L[pa]? = some (cLab ag)) (hb : x.L[pb]? = some (cLab bh)) (hq : pb + 1 = q) (hz : z + 4 <= z') (h : A e -> x.W z' pa e tm) : x.X z' pa bh ag tm r e := by
 cases r with
 | next => exact h k
 | cont => exact j_in O ha (h k)
 | brk => exact J_le hz (aJ O hb (hq ▸ k))
 | ret v => exact E_le (nT (nA _ _) hz) k
 | thr v => exact E_le (nT (nA _ _) hz) k
theorem bY2 {t : Tst} {b : T} (B : Cmp n0 b) : Cmp n0 (.whil t b) := by
 intro x O hn z p q tb ta lc vc tm e hd S hq h1 h2 hv ht k
 have S1 := Seg.app (p := p + 1 + 1) (a := (low b (lc + 3) (lc + 2) (lc + 3) vc).1) (b := cLab (lc + 2) :: (cTst t (lc + 1) ++ [cLab (lc + 3)])) S.2.2
 have S2 := Seg.app (a := cTst t (lc + 1)) (b := [cLab (lc + 3)]) S1.2.2
 have hq : p + 1 + 1 + (low b (lc + 3) (lc + 2) (lc + 3) vc).1.length + 1 + (cTst t (lc + 1)).length + 1 = q := by
  rw [<- hq, show (low (.whil t b) tb ta lc vc).1 = [cGo (lc + 2), cLab (lc + 1)] ++ ((low b (lc + 3) (lc + 2) (lc + 3) vc).1 ++ (cLab (lc + 2) :: (cTst t (lc + 1) ++ [cLab (lc + 3)]))) from rfl, len_app, len_app]
  show _ = p + (2 + (_ + ((cTst t (lc + 1) ++ [cLab (lc + 3)]).length + 1)))
  rw [len_app]
  show _ = p + (2 + (_ + (_ + 1 + 1))); lia
 have T : ∀ i e, tstX x.g.tp t e (lpX (X x.g.tp x.g.sp b) (fun e go => pay 13 e fun e => tstX x.g.tp t e go (x.X z q tb ta tm .next)) (x.X z q tb ta tm) i) (x.X z q tb ta tm .next) -> x.W (z + 17) (p + 1 + 1 + (low b (lc + 3) (lc + 2) (lc + 3) vc).1.length) e tm := by
  intro i
  induction i with
  | zero => exact fun e k => aC4 O S1.2.1 (bN5 (z := z + 8) O S2.1 k (fun _ k => k.elim) fun e k => W_le (zzD (by decide) z) (aC4 O S2.2.1 (hq ▸ k)))
  | succ i ih => exact fun e k => aC4 O S1.2.1 (bN5 (z := z + 8) O S2.1 k (fun e k => aJ (z := z + 4) O S.2.1 (B O hn (zzc hd) S1.1 rfl (nR _) (Nat.le_succ _) hv ht (aB5 b _ _ _ (fun r e k => aU1 O k S1.2.1 S2.2.1 hq (nR _) fun k => aE8 k.1 (W_le (by lia) (ih _ k.2))) k))) fun e k => W_le (zzD (by decide) z) (aC4 O S2.2.1 (hq ▸ k)))
 exact aE8 k.1 (ex1 k.2 fun i k => W_le (by lia) (w_go O S.1 (j_in O S1.2.1 (T i _ k))))
theorem cW4 {t : Tst} {b : T} (B : Cmp n0 b) : Cmp n0 (.dow t b) := by
 intro x O hn z p q tb ta lc vc tm e hd S hq h1 h2 hv ht k
 have S1 := S.2.app
 have S2 := Seg.app (a := cTst t (lc + 1)) (b := [cLab (lc + 3)]) S1.2.2
 have hq : p + 1 + (low b (lc + 3) (lc + 2) (lc + 3) vc).1.length + 1 + (cTst t (lc + 1)).length + 1 = q := by
  rw [<- hq, show (low (.dow t b) tb ta lc vc).1 = cLab (lc + 1) :: ((low b (lc + 3) (lc + 2) (lc + 3) vc).1 ++ (cLab (lc + 2) :: (cTst t (lc + 1) ++ [cLab (lc + 3)]))) from rfl, List.length_cons, len_app]
  show _ = p + (_ + ((cTst t (lc + 1) ++ [cLab (lc + 3)]).length + 1) + 1)
  rw [len_app]
  show _ = p + (_ + (_ + 1 + 1) + 1); lia
 have T : ∀ i e, lpX (X x.g.tp x.g.sp b) (fun e go => pay 13 e fun e => tstX x.g.tp t e go (x.X z q tb ta tm .next)) (x.X z q tb ta tm) i e -> x.W (z + 8) p e tm := by
  intro i
  induction i with
  | zero => exact fun e k => k.elim
  | succ i ih => exact fun e k => aC4 (z := z + 4) O S.1 (B O hn (zzc hd) S1.1 rfl (nR _) (Nat.le_succ _) hv ht (aB5 b _ _ _ (fun r e k => aU1 O k S1.2.1 S2.2.1 hq (nR _) fun k => aE8 k.1 (W_le (by lia) (aC4 O S1.2.1 (bN5 (z := z + 8) O S2.1 k.2 (fun e k => j_in O S.1 (ih e k)) fun e k => W_le (zzD (by decide) z) (aC4 O S2.2.1 (hq ▸ k)))))) k))
 exact aE8 k.1 (ex1 k.2 fun i k => W_le (by lia) (T i _ k))
theorem cP {t : Tst} {b : T} {e1 e2 e3 : Int} (o1 : ev_ e1) (o2 : ev_ e2) (o3 : ev_ e3) (B : Cmp n0 b) : Cmp n0 (.for_ e1 t e2 e3 b) := by
 intro x O hn z p q tb ta lc vc tm e hd S hq h1 h2 hv ht k
 have S1 := Seg.app (p := p + 1 + 1 + 1) (a := (low b (lc + 4) (lc + 2) (lc + 4) vc).1) (b := [cLab (lc + 2), sX (.say e2), sX (.say e3), cLab (lc + 3)] ++ (cTst t (lc + 1) ++ [cLab (lc + 4)])) S.2.2.2
 have S2 := Seg.app (a := cTst t (lc + 1)) (b := [cLab (lc + 4)]) S1.2.2.2.2.2
 have hq : p + 1 + 1 + 1 + (low b (lc + 4) (lc + 2) (lc + 4) vc).1.length + 1 + 1 + 1 + 1 + (cTst t (lc + 1)).length + 1 = q := by
  rw [<- hq, show (low (.for_ e1 t e2 e3 b) tb ta lc vc).1 = [sX (.say e1), cGo (lc + 3), cLab (lc + 1)] ++ ((low b (lc + 4) (lc + 2) (lc + 4) vc).1 ++ ([cLab (lc + 2), sX (.say e2), sX (.say e3), cLab (lc + 3)] ++ (cTst t (lc + 1) ++ [cLab (lc + 4)]))) from rfl, len_app, len_app, len_app, len_app]
  show _ = p + (3 + (_ + (4 + (_ + 1)))); lia
 have T : ∀ i e, tstX x.g.tp t e (lpX (X x.g.tp x.g.sp b) (fun e go => pay 27 e fun e => tstX x.g.tp t ((e.said e2).said e3) go (x.X z q tb ta tm .next)) (x.X z q tb ta tm) i) (x.X z q tb ta tm .next) -> x.W (z + 17) (p + 1 + 1 + 1 + (low b (lc + 4) (lc + 2) (lc + 4) vc).1.length + 1 + 1 + 1) e tm := by
  intro i
  induction i with
  | zero => exact fun e k => aC4 O S1.2.2.2.2.1 (bN5 (z := z + 8) O S2.1 k (fun _ k => k.elim) fun e k => W_le (zzD (by decide) z) (aC4 O S2.2.1 (hq ▸ k)))
  | succ i ih => exact fun e k => aC4 O S1.2.2.2.2.1 (bN5 (z := z + 8) O S2.1 k (fun e k => aJ (z := z + 4) O S.2.2.1 (B O hn (zzc (zzc hd)) S1.1 rfl (nR _) (by lia) hv ht (aB5 b _ _ _ (fun r e k => aU1 O k S1.2.1 S2.2.1 hq (nR _) fun k => aE8 k.1 (W_le (by lia) (aC4 O S1.2.1 (cF9 O S1.2.2.1 o2 (cF9 O S1.2.2.2.1 o3 (ih _ k.2)))))) k))) fun e k => W_le (zzD (by decide) z) (aC4 O S2.2.1 (hq ▸ k)))
 exact aE8 k.1 (ex1 k.2 fun i k => W_le (by lia) (cF9 O S.1 o1 (w_go O S.2.1 (j_in O S1.2.2.2.2.1 (T i _ k)))))
end
section
variable {x : Cz} {z z' p q l tb ta n0 i : Nat} {e : En} {tm : Tm} {r : Rs} {A : En -> Prop}
theorem aD4 {v : PV} {vc : Nat} (ht : ∀ i, vc < i -> tm i = none) : ∀ i u, tm i = some u -> put1 tm (vc + 1) v i = some u := fun i u h => by
 rw [bS5 (fun z => by subst z; exact nomatch (ht (vc + 1) (zzb vc)).symm.trans h)]; exact h
theorem aE6 {v : PV} {vc : Nat} (ht : ∀ i, vc < i -> tm i = none) : ∀ i, vc + 1 < i -> put1 tm (vc + 1) v i = none := fun i h => by
 rw [bS5 (Nat.ne_of_gt h)]; exact ht i (Nat.lt_of_succ_lt h)
theorem cM0 : Cmp n0 .nil := by
 intro x O hn z p q tb ta lc vc tm e hd S hq h1 h2 hv ht k
 have hq : p = q := hq
 rw [hq]; exact k
theorem cG1 {a b : T} (A : Cmp n0 a) (B : Cmp n0 b) : Cmp n0 (.cons a b) := by
 intro x O hn z p q tb ta lc vc tm e hd S hq h1 h2 hv ht k
 have S1 := Seg.app (p := p) (a := (low a tb ta lc vc).1) (b := (low b tb ta (low a tb ta lc vc).2.1 (low a tb ta lc vc).2.2).1) S
 have hd := zzW.mp hd
 have lo := aE7 a tb ta lc vc
 have hl : lc <= (low a tb ta lc vc).2.1 := nT (zzE _ _) lo.1.cnt
 refine A O hn hd.1 S1.1 rfl h1 h2 hv ht (aB5 a _ _ _ (fun r e k => ?_) k)
 cases r with
 | next => exact B O hn hd.2 S1.2 ((Nat.add_assoc ..).trans ((congrArg (p + ·) len_app.symm).trans hq)) (nT h1 hl) (nT h2 hl) (nT hv lo.2.2) (fun i h => ht i (zzG lo.2.2 h)) k
 | _ => exact k
theorem cM3 {l : T} (B : Cmp n0 l) : Cmp n0 (.blk l) := fun O hn _ _ _ _ _ _ _ _ _ hd S hq h1 h2 hv ht k => B O hn (zzc hd) S hq h1 h2 hv ht k
theorem dC3 {y : Sx} (ho : Ok (.ex y)) (h1 : 1 <= n0) (hl : ∀ lid k ev, y = .shown lid k ev -> lid <= n0) : Cmp n0 (.ex y) := by
 intro x O hn z p q tb ta lc vc tm e hd S hq _ _ hv ht k
 subst hn
 have hq : p + 1 = q := hq
 subst hq
 cases y with
 | say ev => exact aE8 k.1 (W_le (by lia) (cF9 O S.1 ho k.2))
 | hold r =>
  have k' : x.W z (p + 1) ((({ e with gas := e.gas - 6 } : En).row r).set 1 (arrV (rowL r))) tm := k.2
  unfold Cz.W at k'
  rw [aU6 h1] at k'
  exact aE8 k.1 (W_le (z := z + 6) (by lia) (aA2 (z := z + 2) O S.1 (cH0 ho k')))
 | shown lid kind ev => exact aE8 k.1 (W_le (z := z + 5) (by lia) (aB k.2 fun v hv k => aA2 (z := z + 1) O S.1 (cG5 ((aU0 (hl lid kind ev rfl)).trans hv) k)))
theorem cA9 {y : Jp} (ho : Ok (.jump y)) : Cmp n0 (.jump y) := by
 intro x O hn z p q tb ta lc vc tm e hd S hq _ _ hv ht k
 cases y with
 | brk => exact aE8 k.1 (W_le (by lia) (w_go O S.1 k.2))
 | cont => exact aE8 k.1 (W_le (by lia) (w_go O S.1 k.2))
 | ret ev => exact aE8 k.1 (W_le (z := z + 5) (by lia) (aA2 (z := z + 1) O S.1 (dS3 ho k.2)))
 | thr r => exact aE8 k.1 (W_le (z := z + 5) (by lia) (aA2 (z := z + 1) O S.1 (dO8 ho k.2)))
theorem dS9 {q' : Nat} (h : z <= z') (k : noN (x.X z q tb ta tm) r e) : x.X z' q' tb ta tm r e := by
 cases r with
 | next => exact k.elim
 | brk => exact J_le h k
 | cont => exact J_le h k
 | ret v => exact E_le h k
 | thr v => exact E_le h k
theorem bF2 {t : T} (h : aF7 t = true) : t = .nil := by cases t <;> first | rfl | exact nomatch h
theorem cU6 {y m : T} (A : Cmp n0 y) (B : Cmp n0 m) : Cmp n0 (.ask y m) := by
 intro x O hn z p q tb ta lc vc tm e hd S hq h1 h2 hv ht k
 have hd := zzW.mp (zzc hd)
 have lo := aE7 y tb ta (lc + 1) vc
 have hl : lc + 1 <= (low y tb ta (lc + 1) vc).2.1 := nT (zzE _ _) lo.1.cnt
 refine aE8 k.1 ?_
 have k := k.2
 revert S hq
 show Seg x.L p (askL (aF7 m) _ _ lc).1 -> p + (askL (aF7 m) _ _ lc).1.length = q -> _
 have turn : ∀ {u}, x.L[p]? = some (cIf eAsk 0 (lc + 1)) -> (ans x.g.tp e = false -> x.J u (lc + 1) (({ e with gas := e.gas - 13 } : En).asked x.g.tp) tm) -> (ans x.g.tp e = true -> x.W u (p + 1) (({ e with gas := e.gas - 13 } : En).asked x.g.tp) tm) -> x.W (u + 5) p { e with gas := e.gas - 13 } tm :=
  fun {u} hs a b => aA2 (z := u + 1) O hs (cI8 (b := false) a fun d => b (Bool.ne_false_iff.mp d))
 have kT : ans x.g.tp e = true -> X x.g.tp x.g.sp y (x.X z q tb ta tm) (({ e with gas := e.gas - 13 } : En).asked x.g.tp) := fun d => by
  revert k; show (match ans x.g.tp e with | true => _ | false => _) -> _
  rw [d]; exact id
 have kF : ans x.g.tp e = false -> X x.g.tp x.g.sp m (x.X z q tb ta tm) (({ e with gas := e.gas - 13 } : En).asked x.g.tp) := fun d => by
  revert k; show (match ans x.g.tp e with | true => _ | false => _) -> _
  rw [d]; exact id
 cases hm : aF7 m with
 | true =>
  intro S hq
  have S1 := Seg.app (p := p + 1) (a := (low y tb ta (lc + 1) vc).1) (b := [cLab (lc + 1)]) S.2
  have hq : p + 1 + (low y tb ta (lc + 1) vc).1.length + 1 = q := by
   rw [<- hq, show (askL true (low y tb ta (lc + 1) vc) (low m tb ta ((low y tb ta (lc + 1) vc).2.1 + 1) (low y tb ta (lc + 1) vc).2.2) lc).1 = cIf eAsk 0 (lc + 1) :: ((low y tb ta (lc + 1) vc).1 ++ [cLab (lc + 1)]) from rfl, List.length_cons, len_app]
   show _ = p + (_ + 1 + 1); lia
  refine W_le (z := z + 9) (by lia) (turn S.1 (fun d => aJ O S1.2.1 ?_) fun d => A O hn hd.1 S1.1 rfl (Nat.le_succ_of_le h1) (Nat.le_succ_of_le h2) hv ht (aB5 y _ _ _ (fun r e k => ?_) (kT d)))
  ·have := kF d
   rw [bF2 hm] at this
   exact hq ▸ this
  ·cases r with
   | next => exact aC4 O S1.2.1 (hq ▸ k)
   | _ => exact X_le (q := q) (nA _ _) k
 | false =>
  intro S hq
  have S1 := Seg.app (p := p + 1) (a := (low y tb ta (lc + 1) vc).1 ++ (goIf (aA6 (cIf eAsk 0 (lc + 1) :: (low y tb ta (lc + 1) vc).1)) ((low y tb ta (lc + 1) vc).2.1 + 1) ++ [cLab (lc + 1)])) (b := (low m tb ta ((low y tb ta (lc + 1) vc).2.1 + 1) (low y tb ta (lc + 1) vc).2.2).1 ++ [cLab ((low y tb ta (lc + 1) vc).2.1 + 1)]) S.2
  have S2 := Seg.app (a := (low y tb ta (lc + 1) vc).1) S1.1
  have S3 := Seg.app (b := [cLab (lc + 1)]) S2.2
  have S4 := Seg.app (b := [cLab ((low y tb ta (lc + 1) vc).2.1 + 1)]) S1.2
  have lm := aE7 m tb ta ((low y tb ta (lc + 1) vc).2.1 + 1) (low y tb ta (lc + 1) vc).2.2
  have e1 : p + 1 + (low y tb ta (lc + 1) vc).1.length + (goIf (aA6 (cIf eAsk 0 (lc + 1) :: (low y tb ta (lc + 1) vc).1)) ((low y tb ta (lc + 1) vc).2.1 + 1)).length + 1 = p + 1 + ((low y tb ta (lc + 1) vc).1 ++ (goIf (aA6 (cIf eAsk 0 (lc + 1) :: (low y tb ta (lc + 1) vc).1)) ((low y tb ta (lc + 1) vc).2.1 + 1) ++ [cLab (lc + 1)])).length := by
   rw [len_app, len_app]; show _ = p + 1 + (_ + (_ + 1)); lia
  have hq : p + 1 + ((low y tb ta (lc + 1) vc).1 ++ (goIf (aA6 (cIf eAsk 0 (lc + 1) :: (low y tb ta (lc + 1) vc).1)) ((low y tb ta (lc + 1) vc).2.1 + 1) ++ [cLab (lc + 1)])).length + (low m tb ta ((low y tb ta (lc + 1) vc).2.1 + 1) (low y tb ta (lc + 1) vc).2.2).1.length + 1 = q := by
   rw [<- hq, show (askL false (low y tb ta (lc + 1) vc) (low m tb ta ((low y tb ta (lc + 1) vc).2.1 + 1) (low y tb ta (lc + 1) vc).2.2) lc).1 = cIf eAsk 0 (lc + 1) :: (((low y tb ta (lc + 1) vc).1 ++ (goIf (aA6 (cIf eAsk 0 (lc + 1) :: (low y tb ta (lc + 1) vc).1)) ((low y tb ta (lc + 1) vc).2.1 + 1) ++ [cLab (lc + 1)])) ++ ((low m tb ta ((low y tb ta (lc + 1) vc).2.1 + 1) (low y tb ta (lc + 1) vc).2.2).1 ++ [cLab ((low y tb ta (lc + 1) vc).2.1 + 1)])) from rfl, List.length_cons, len_app (b := _ ++ [cLab ((low y tb ta (lc + 1) vc).2.1 + 1)]), len_app (b := [cLab ((low y tb ta (lc + 1) vc).2.1 + 1)])]
   show _ = p + (_ + (_ + 1) + 1); lia
  have last : ∀ {e}, x.W z q e tm -> x.J (z + 4) ((low y tb ta (lc + 1) vc).2.1 + 1) e tm := fun k => aJ O S4.2.1 (hq ▸ k)
  refine W_le (z := z + 13) (by lia) (turn S.1 (fun d => aJ O S3.2.1 ?_) fun d => ?_)
  ·rw [e1]
   refine B O hn hd.2 S4.1 rfl (by lia) (by lia) (nT hv lo.2.2) (fun i h => ht i (zzG lo.2.2 h)) (aB5 m _ _ _ (fun r e k => ?_) (kF d))
   cases r with
   | next => exact aC4 O S4.2.1 (hq ▸ k)
   | _ => exact X_le (q := q) (nA _ _) k
  ·cases ho : aA6 (cIf eAsk 0 (lc + 1) :: (low y tb ta (lc + 1) vc).1) with
   | true =>
    rw [ho] at S3
    refine A O hn hd.1 S2.1 rfl (Nat.le_succ_of_le h1) (Nat.le_succ_of_le h2) hv ht (aB5 y _ _ _ (fun r e k => ?_) (kT d))
    cases r with
    | next => exact w_go O S3.1.1 (last k)
    | _ => exact X_le (q := q) (nA _ _) k
   | false =>
    have hc : aA6 (low y tb ta (lc + 1) vc).1 = false := by
     have ho : aA6 ([cIf eAsk 0 (lc + 1)] ++ (low y tb ta (lc + 1) vc).1) = false := ho
     by_cases z : (low y tb ta (lc + 1) vc).1 = []
     ·rw [z] at ho; exact nomatch ho
     ·rw [aT5 z] at ho; exact ho
    refine A O hn hd.1 S2.1 rfl (Nat.le_succ_of_le h1) (Nat.le_succ_of_le h2) hv ht (aB5 y _ _ _ (fun r e k => ?_) ((aX2 y tb ta (lc + 1) vc).2 hc _ _ (kT d)))
    exact dS9 (nA _ _) k
end
section
variable {x : Cz} {z z' p q pa pb l tb ta n0 i bh ag : Nat} {e : En} {tm tm' : Tm} {r : Rs} {A : En -> Prop}
theorem cV7 (O : x.Ok) (ht : ∀ i v, tm i = some v -> tm' i = some v) (k : exX (x.X z q tb ta tm) A r e) (ha : x.L[pa]? = some (cLab ag)) (hb : x.L[pb]? = some (cLab bh)) (hq : pb + 1 = q) (hz : z + 4 <= z') (h : A e -> x.W z' pa e tm') : x.X z' pa bh ag tm' r e := by
 cases r with
 | next => exact h k
 | cont => exact j_in O ha (h k)
 | brk => exact J_le hz (aJ O hb (hq ▸ W_tm ht k))
 | ret v => exact E_le (nT (nA _ _) hz) (X_tm (r := .ret v) (q := q) (tb := tb) (ta := ta) ht k)
 | thr v => exact E_le (nT (nA _ _) hz) (X_tm (r := .thr v) (q := q) (tb := tb) (ta := ta) ht k)
theorem bU0 {u v : PV} {vc : Nat} : ∀ i w, put1 tm vc v i = some w -> put1 (put1 tm vc u) vc v i = some w := fun i w h => by
 by_cases hi : i = vc
 ·subst hi; rw [aL2] at *; exact h
 ·rw [bS5 hi] at *; rw [bS5 hi]; exact h
theorem cO0 {v : PV} (h : i <= x.n0) (k : x.W z p (e.set i v) tm) : Wp x.P (GaF x.P x.k) 0 x.st x.j x.K x.g z p ((e.plus x.n0 tm).set i v) := aU6 (tm := tm) (e := e) (v := v) h ▸ k
theorem aS9 {v : PV} (h : x.n0 < i) (k : x.W z p e (put1 tm i v)) : Wp x.P (GaF x.P x.k) 0 x.st x.j x.K x.g z p ((e.plus x.n0 tm).set i v) := cE9 (tm := tm) (e := e) (v := v) h ▸ k
noncomputable def arG (b : KX -> En -> Prop) (lid : Nat) (K : KX) (e : En) : Option (List Int) -> Prop
 | none => K (.thr 1) e
 | some l => arX b lid K l e
theorem cU (r : Nat) (l : List Int) (h : rowL r = some l) : l.length < 1000000 := by
 match r, h with
 | 0, h => cases h; decide
 | 1, h => cases h; decide
 | 2, h => cases h; decide
 | _ + 3, h => exact nomatch h
theorem dB {lid : Nat} {wd : Bool} {src : Option Nat} {b : T} (ho : Ok (.arr lid wd src b)) (hl : lid <= n0) (h0 : 1 <= n0) (B : Cmp n0 b) : Cmp n0 (.arr lid wd src b) := by
 intro x O hn z p q tb ta lc vc tm e hd S hq h1 h2 hv ht k
 subst hn
 have hd := zzc hd
 have S1 := Seg.app (p := p + 1 + 1 + 1 + 1 + 1) (a := (low b (lc + 4) (lc + 2) (lc + 4) (vc + 2)).1) (b := [cLab (lc + 2), cInc (vc + 2), cLab (lc + 3), cIf (aQ1 (vc + 2) (vc + 1)) 1 (lc + 1), cLab (lc + 4)]) S.2.2.2.2.2
 have hq : p + 1 + 1 + 1 + 1 + 1 + (low b (lc + 4) (lc + 2) (lc + 4) (vc + 2)).1.length + 1 + 1 + 1 + 1 + 1 = q := by
  rw [<- hq, show (low (.arr lid wd src b) tb ta lc vc).1 = [cArr (vc + 1) src, cIdx (vc + 2), cGo (lc + 3), cLab (lc + 1), aL4 lid wd (vc + 1) (vc + 2)] ++ ((low b (lc + 4) (lc + 2) (lc + 4) (vc + 2)).1 ++ [cLab (lc + 2), cInc (vc + 2), cLab (lc + 3), cIf (aQ1 (vc + 2) (vc + 1)) 1 (lc + 1), cLab (lc + 4)]) from rfl, len_app, len_app]
  show _ = p + (5 + (_ + 5)); lia
 have k1 : ∀ v, ∀ i u, tm i = some u -> put1 tm (vc + 1) v i = some u := fun v => aD4 ht
 have t1 : ∀ v, ∀ i, vc + 1 < i -> put1 tm (vc + 1) v i = none := fun v => aE6 ht
 have k2 : ∀ v v', ∀ i u, tm i = some u -> put1 (put1 tm (vc + 1) v) (vc + 2) v' i = some u := fun v v' i u h => aD4 (t1 v) i u (k1 v i u h)
 have t2 : ∀ v v', ∀ i, vc + 2 < i -> put1 (put1 tm (vc + 1) v) (vc + 2) v' i = none := fun v v' => aE6 (t1 v)
 have v1 : ∀ v v' (e : En), (e.plus x.n0 (put1 (put1 tm (vc + 1) v) (vc + 2) v')).vars (vc + 1) = some v := fun v v' e => by rw [aB8 (by lia), bS5 (by lia), aL2]
 have v2 : ∀ v v' (e : En), (e.plus x.n0 (put1 (put1 tm (vc + 1) v) (vc + 2) v')).vars (vc + 2) = some v' := fun v v' e => by rw [aB8 (by lia), aL2]
 have fin : ∀ {e} {tm'}, (∀ i u, tm i = some u -> tm' i = some u) -> x.W z q e tm -> x.W (z + 4) (p + 1 + 1 + 1 + 1 + 1 + (low b (lc + 4) (lc + 2) (lc + 4) (vc + 2)).1.length + 1 + 1 + 1 + 1) e tm' := fun h k => aC4 O S1.2.2.2.2.2.1 (hq ▸ W_tm h k)
 have T : ∀ (Ls l : List Int) (i : Nat) e, Ls.drop i = l -> i <= Ls.length -> Ls.length < 1000000 -> arX (X x.g.tp x.g.sp b) lid (x.X z q tb ta tm) l e -> x.W (z + 12) (p + 1 + 1 + 1 + 1 + 1 + (low b (lc + 4) (lc + 2) (lc + 4) (vc + 2)).1.length + 1 + 1) e (put1 (put1 tm (vc + 1) (arrV (some Ls))) (vc + 2) (pn i)) := by
  intro Ls l
  induction l with
  | nil =>
   intro i e hi hi2 hn k
   have : Ls.length <= i := List.drop_eq_nil_iff.mp hi
   exact aC4 (z := z + 8) O S1.2.2.2.1 (aA2 (z := z + 4) O S1.2.2.2.2.1 (bU7 (v2 _ _ e) (v1 _ _ e) (fun h => absurd h (by rw [zzZ]; lia)) fun _ => fin (k2 _ _) k))
  | cons a l ih =>
   intro i e hi hi2 hn k
   have hlt : i < Ls.length := Nat.lt_of_not_le fun h => nomatch (List.drop_eq_nil_iff.mpr h).symm.trans hi
   have ha : (Ls.map PV.int)[i]? = some (pi a) := by
    rw [zza, <- List.head?_drop, hi]; rfl
   have hi' : Ls.drop (i + 1) = l := by rw [<- List.tail_drop, hi]; rfl
   refine aE8 k.1 (W_le (z := z + 38) (by lia) (aC4 (z := z + 34) O S1.2.2.2.1 (aA2 (z := z + 30) O S1.2.2.2.2.1 (bU7 (v2 _ _ _) (v1 _ _ _) (fun _ => ?_) fun h => absurd (by rw [zzZ]; exact hlt) h))))
   refine aJ (z := z + 26) O S.2.2.2.1 (aA2 (z := z + 22) O S.2.2.2.2.1 (cW5 (z := z + 21) (v1 _ _ _) (v2 _ _ _) (by lia) ha (cO0 hl ?_)))
   refine B O rfl hd S1.1 rfl (nR _) (by lia) (by lia) (t2 _ _) (aB5 b _ _ _ (fun r e k => ?_) k.2)
   exact cV7 O (k2 _ _) k S1.2.1 S1.2.2.2.2.2.1 hq (by lia) fun k => aC4 (z := z + 17) O S1.2.1 (aA2 (z := z + 13) O S1.2.2.1 (dF0 (z := z + 12) (v2 _ _ _) (aS9 (by lia) (W_tm bU0 (ih (i + 1) e hi' hlt hn k)))))
 have go : ∀ {a : Option (List Int)} {e}, (∀ l, a = some l -> l.length < 1000000) -> arG (X x.g.tp x.g.sp b) lid (x.X z q tb ta tm) e a -> x.W (z + 21) (p + 1) e (put1 tm (vc + 1) (arrV a)) := fun {a e} hn k => by
  refine aA2 (z := z + 17) O S.2.1 (dK (z := z + 16) (aS9 (by lia) (w_go (z := z + 12) O S.2.2.1 (j_in O S1.2.2.2.1 ?_))))
  cases a with
  | some l => exact T l l 0 e rfl (zzN _) (hn l rfl) k
  | none => exact aC4 (z := z + 8) O S1.2.2.2.1 (aA2 (z := z + 4) O S1.2.2.2.2.1 (cA3 (z := z + 2) (v2 _ _ _) (v1 _ _ _) (E_le (nA _ _) (X_tm (r := .thr 1) (q := q) (tb := tb) (ta := ta) (k2 _ _) k))))
 refine aE8 k.1 ?_
 have k := k.2
 cases src with
 | none => exact ex1 k fun a k => W_le (z := z + 26) (by lia) (aA2 (z := z + 22) O S.1 (cW1 (z := z + 21) ((aU0 h0).trans k.1) (aS9 (e := { e with gas := e.gas - 27 }) (by lia) (go (a := a) (fun l h => zzG (k.2.1 l h) (by decide)) (by cases a <;> exact k.2.2)))))
 | some r =>
  have k' : arG (X x.g.tp x.g.sp b) lid (x.X z q tb ta tm) (({ e with gas := e.gas - 27 } : En).row r) (rowL r) := by
   revert k
   show (match rowL r with | none => x.X z q tb ta tm (.thr 1) _ | some l => arX _ _ _ l _) -> _
   cases rowL r <;> exact id
  exact W_le (z := z + 27) (by lia) (aA2 (z := z + 23) O S.1 (cH0 (z := z + 21) (ho.2.1 r rfl) (aS9 (e := ({ e with gas := e.gas - 27 } : En).row r) (by lia) (go (a := rowL r) (cU r) k'))))
end
section
variable {x : Cz} {P : PI} {k z p q l tb ta lc vc n n0 i m a b : Nat} {e : En} {tm : Tm} {s : PV} {r : Rs} {A : En -> Prop} {g : Sg} {w : FD} {tl : Mem} {c f : Nat} {K : Kt MV} {u : Int} {pl : MV} {L : List PV}
noncomputable def fv (tb ta : Nat) : Rs -> MV
 | .next => n_
 | .brk => gow tb
 | .cont => gow ta
 | .ret v => rv (.ret v)
 | .thr v => rv (.thr v)
theorem bB (O : x.Ok) (k : x.E z e tm n_) : x.W z x.L.length e tm := by
 intro u w tl c f pl r hu R hf hr
 have hl : u <= w.turns := R.low
 have ha := R.ac
 cases f with
 | zero => unfold Ac at ha; exact absurd hf (by lia)
 | succ f =>
  have go : cD x.P (Gj x.P (GaF x.P x.k) 9) x.K x.st (.obj (x.j + 7)) pl x.L.length f (FW w tl) c := cI7 O.F R.extra (decF (by lia) (k _ _ _ (R.base hu)))
  refine hr.elim (fun z => ?_) fun z => ex1 z fun v z => ?_ <;> subst z
  ·exact (bV0 x.P (Gj x.P (GaF x.P x.k) 9) x.K c x.st (.obj (x.j + 7)) pl x.L.length f (FW w tl)).mpr go
  ·exact (bP2 x.P (Gj x.P (GaF x.P x.k) 9) x.K c x.st (.obj (x.j + 7)) pl v x.L.length f (FW w tl)).mpr go
theorem aI (l : List PV) : Seg l 0 l := Seg.all l fun i => congrArg (l[·]?) (Nat.zero_add i).symm
theorem aO8 (h : LF L a b n) (hb : b <= a + 10 * m) (hn : n < 1000000) (R : Rw g (z + m) e w tl c) (q0 : L = [] -> Lk g z e K n_)
  (q : ∀ (x : Cz), x.Ok -> x.P = P -> x.k = k -> x.L = L -> x.K = K -> (∀ l, l <= a -> aA9 (pn l) x.M = none) -> x.g.tp = g.tp -> x.g.sp = g.sp -> (∀ {z e v}, Lk g z e K v -> Lk x.g z e K v) -> Wp P (GaF P k) 0 x.st x.j K x.g z 0 e) :
  GaF P (k + 1) (V "") xFl [.obj 0, .p (.tup L)] K (FW w tl) c := by
 rw [aU5]
 refine ⟨rfl, rfl, bG (n := 0) (m := m) (fun tl c K q => q) (fun p s tl c K hs q => ?_) (zzG h.len hn) h.flat (by have := h.cnt; lia) R (.inl rfl) (fun h _ => q0 h) (fun j M u hM hu F => ?_) fun h => by rw [h]⟩
 ·show chk (Nat.blt p 1000000) (som L[p]? fun x => K (.p x) (FW w tl) c)
  rw [show Nat.blt p 1000000 = true from zzI (Nat.lt_trans (zzA.mp hs).1 (zzG h.len hn)), hs]
  exact q
 ·subst hM
  refine q ⟨P, k, .p (.tup L), j, mkD L 0 [], L, K, { g with kp := (j, mkD L 0 []) :: g.kp, u := u }, 0⟩ ⟨F, fun p l hl => ?_⟩ rfl rfl rfl rfl (fun l hl => ?_) rfl rfl fun k w tl c R => k w tl c (R.unmark hu)
  ·exact (cH6 L (p := 0) rfl h.nd hl).trans (congrArg (fun x => some (MV.p (pn x))) (Nat.zero_add p))
  ·exact bP6 L rfl fun s hs z => absurd (h.bd l (List.mem_filterMap.mpr ⟨s, hs, z⟩)).1 (Nat.not_lt_of_le hl)
theorem aJ4 {t : T} (B : Cmp n0 t) (hd : dep t <= k) (hl : nl t <= 80) (hn : ln t < 1000000) (h1 : tb <= lc) (h2 : ta <= lc) (hv : n0 <= vc) (ht : ∀ i, vc < i -> tm i = none) (R : Rw g (z + 8) (e.plus n0 tm) w tl c)
  (q : X g.tp g.sp t (fun r e => Lk g z (e.plus n0 tm) K (fv tb ta r)) e) : GaF P (k + 1) (V "") xFl [.obj 0, .p (.tup (low t tb ta lc vc).1)] K (FW w tl) c := by
 have lo := aE7 t tb ta lc vc
 refine aO8 (m := 8) lo.1 (by have := lo.2.1; lia) hn R (fun h => (aX2 t tb ta lc vc).1 h _ _ q) ?_
 intro x O e1 e2 e3 e4 hM e5 e6 hK
 obtain ⟨xP, xk, xst, xj, xM, xL, xK, xg, xn⟩ := x
 subst e1 e2 e3 e4
 have O' : Cz.Ok ⟨xP, xk, xst, xj, xM, (low t tb ta lc vc).1, xK, xg, n0⟩ := ⟨O.F, O.hm⟩
 refine B O' rfl hd (aI _) rfl h1 h2 hv ht ?_
 show X xg.tp xg.sp t _ e
 rw [show xg.tp = g.tp from e5, show xg.sp = g.sp from e6]
 refine aB5 t _ _ _ (fun r e k => ?_) q
 cases r with
 | next => exact (Nat.zero_add (low t tb ta lc vc).1.length).symm ▸ bB O' (hK k)
 | brk => exact bG0 O.F (hM tb h1) (hK k)
 | cont => exact bG0 O.F (hM ta h2) (hK k)
 | ret v => exact hK k
 | thr v => exact hK k
theorem cZ5 (O : x.Ok) (k : x.X z (p + 1) tb ta tm r e) (hu : x.g.u <= u) (R : Rw (x.g.at u) z (e.plus x.n0 tm) w tl c) (hf : 20001 <= u + (f : Nat)) : aftG x.P (aftE x.P (GaF x.P x.k) 0 x.st (.obj (x.j + 7)) x.K f pl p) (fv tb ta r) (FW w tl) c := by
 cases r with
 | next => exact aB1 k hu R hf
 | brk => exact aO2 k hu R hf
 | cont => exact aO2 k hu R hf
 | ret v => exact bP1 k hu R
 | thr v => exact bP0 k hu R
theorem th_go {A B : Mem -> Nat -> Prop} {m : Mem} : thrK (gow l) A B m c = B m c := by kernel_rfl
theorem aT0 {A : Mem -> Nat -> Prop} {m : Mem} (q : A m c) : thrK (fv tb ta r) A A m c := by
 cases r with
 | next => exact q
 | brk => exact th_go.mpr q
 | cont => exact th_go.mpr q
 | ret v => exact th_ret.mpr q
 | thr v => exact th_thr.mpr q
noncomputable def bH8 (G : Orc) (b : Bool) (l : List PV) (K : Kt MV) : Kt MV := match b with | true => K | false => endS G l K
theorem cZ1 {t : T} (B : Cmp n0 t) (hd : dep t <= k) (hl : nl t <= 80) (hn : ln t < 1000000) (h1 : tb <= lc) (h2 : ta <= lc) (hv : n0 <= vc) (ht : ∀ i, vc < i -> tm i = none) (R : Rw g (z + 8) (e.plus n0 tm) w tl c)
  (q : X g.tp g.sp t (fun y e => Lk g z (e.plus n0 tm) K (fv tb ta (finR r y))) e) : bH8 (GaF P (k + 1)) (aF7 t) (low t tb ta lc vc).1 K (fv tb ta r) (FW w tl) c := by
 cases h : aF7 t with
 | true =>
  rw [bF2 h] at q
  exact q _ _ _ (R.le (nA _ _))
 | false =>
  refine aJ4 B hd hl hn h1 h2 hv ht R (aB5 t _ _ _ (fun y e q w tl c R => ?_) q)
  cases y <;> exact q w tl c R
end
section
variable {x : Cz} {P : PI} {k z p q l tb ta lc vc n n0 i m a b : Nat} {e : En} {tm : Tm} {r : Rs} {g : Sg} {w : FD} {tl : Mem} {c f : Nat} {K : Kt MV} {u : Int} {pl : MV} {G : Orc}
theorem try_L0 {b l : List PV} {o : Bool} {h : PV} {m : Mem} : stp n P G (cTry b (bI4 0 h) (cF5 o l)) K m c = flK G b (fun r => thrK r (bH8 G o l K r) (bH8 G o l K r)) m c := by
 cases o with
 | true => exact dD6 n P G K c b m
 | false => exact bS0 n P G K c b l m
theorem try_L1 {lid : Nat} {b h l : List PV} {o : Bool} {m : Mem} : stp n P G (cTry b (bI4 (lid + 1) (aA1 h)) (cF5 o l)) K m c = flK G b (fun r => thrK r (fun m c => getI r (i_ 1) (fun v => putK ((lid + 1 : Nat) : Int) v (flK G h (bH8 G o l K))) m c) (bH8 G o l K r)) m c := by
 cases o with
 | true => exact cO9 n P G K c b h ((lid + 1 : Nat) : Int) m
 | false => exact cV0 n P G K c b h l ((lid + 1 : Nat) : Int) m
theorem le3 {a b c : Nat} (h : a + b + c <= 80) : a <= 80 /\ b <= 80 /\ c <= 80 := by lia
theorem lt4 {a b c : Nat} (h : 1 + a + b + c < 1000000) : a < 1000000 /\ b < 1000000 /\ c < 1000000 := by lia
theorem cR8 {lid : Nat} {b h l : T} (hl : lid <= n0) (hnl : nl (.try_ lid b h l) <= 80) (hln : ln (.try_ lid b h l) < 1000000) (B : Cmp n0 b) (H : Cmp n0 h) (Z : Cmp n0 l) : Cmp n0 (.try_ lid b h l) := by
 intro x O hn z p q tb ta lc vc tm e hd S hq h1 h2 hv ht k
 subst hn
 have nlb := le3 hnl
 have lnb := lt4 hln
 obtain ⟨xP, xk, xst, xj, xM, xL, xK, xg, xn⟩ := x
 cases xk with
 | zero => exact absurd hd (Nat.not_succ_le_zero _)
 | succ xk =>
  have hb : dep b <= xk := (zzW.mp (zzK hd)).1
  have hh : dep h <= xk := (zzW.mp (zzW.mp (zzK hd)).2).1
  have hz : dep l <= xk := (zzW.mp (zzW.mp (zzK hd)).2).2
  have lb := aE7 b tb ta lc vc
  have lh := aE7 h tb ta (low b tb ta lc vc).2.1 (low b tb ta lc vc).2.2
  have c1 : lc <= (low b tb ta lc vc).2.1 := nT (zzE _ _) lb.1.cnt
  have c2 : (low b tb ta lc vc).2.1 <= (low h tb ta (low b tb ta lc vc).2.1 (low b tb ta lc vc).2.2).2.1 := nT (zzE _ _) lh.1.cnt
  have hq : p + 1 = q := hq
  subst hq
  refine aE8 k.1 (W_le (z := z + 32) (nR _) (aA2 (z := z + 28) O S.1 fun u w tl c f pl hu R hf => ?_))
  have k := k.2
  have fin : ∀ {r e w tl c}, Rw (xg.at u) (z + 8) (e.plus xn tm) w tl c -> X xg.tp xg.sp l (fun y => Cz.X ⟨xP, xk + 1, xst, xj, xM, xL, xK, xg, xn⟩ z (p + 1) tb ta tm (finR r y)) e ->
    bH8 (GaF xP (xk + 1)) (aF7 l) (low l tb ta (low h tb ta (low b tb ta lc vc).2.1 (low b tb ta lc vc).2.2).2.1 (low h tb ta (low b tb ta lc vc).2.1 (low b tb ta lc vc).2.2).2.2).1 (aftG xP (aftE xP (GaF xP (xk + 1)) 0 xst (.obj (xj + 7)) xK f pl p)) (fv tb ta r) (FW w tl) c := fun {r e w tl c} R k =>
   cZ1 (g := xg.at u) Z hz nlb.2.2 lnb.2.2 (nT h1 (nT c1 c2)) (nT h2 (nT c1 c2)) (nT hv (nT lb.2.2 lh.2.2)) (fun i h => ht i (zzG (nT lb.2.2 lh.2.2) h)) R (aB5 l _ _ _ (fun y e k w tl c R => cZ5 (x := ⟨xP, xk + 1, xst, xj, xM, xL, xK, xg, xn⟩) O k hu R hf) k)
  cases lid with
  | zero =>
   refine try_L0.mpr (aJ4 (g := xg.at u) (z := z + 20) B hb nlb.1 lnb.1 h1 h2 hv ht R (aB5 b _ _ _ (fun r e k w tl c R => ?_) k))
   exact aT0 (fin (R.le (zzD (by decide) z)) k)
  | succ lid =>
   refine try_L1.mpr (aJ4 (g := xg.at u) (z := z + 20) B hb nlb.1 lnb.1 h1 h2 hv ht R (aB5 b _ _ _ (fun r e k w tl c R => ?_) k))
   cases r with
   | next => exact fin (R.le (zzD (by decide) z)) k
   | brk => exact th_go.mpr (fin (R.le (zzD (by decide) z)) k)
   | cont => exact th_go.mpr (fin (R.le (zzD (by decide) z)) k)
   | ret v => exact th_ret.mpr (fin (R.le (zzD (by decide) z)) k)
   | thr v =>
    refine th_thr.mpr (get_thr.mpr (bI7 (z := z + 19) (v := pi v) R fun w tl c R => ?_))
    rw [<- aU6 hl] at R
    exact aJ4 (g := xg.at u) (z := z + 11) H hh nlb.2.1 lnb.2.1 (nT h1 c1) (nT h2 c1) (nT hv lb.2.2) (fun i h => ht i (zzG lb.2.2 h)) R (aB5 h _ _ _ (fun r e k w tl c R => fin (R.le (zzD (by decide) z)) k) k)
end
section
variable {x : Cz} {P : PI} {k z p q l tb ta lc vc n n0 i m a b : Nat} {e : En} {tm tm' : Tm} {r : Rs} {g : Sg} {w : FD} {tl : Mem} {c f : Nat} {K : Kt MV} {u : Int} {pl : MV} {L : List PV}
noncomputable def Dsp (sp : List Spec) (n0 : Nat) (L : List PV) (y z : Nat) (e e' : En) (tm : Tm) : Prop := ∀ {x : Cz}, x.Ok -> x.g.sp = sp -> x.L = L -> x.n0 = n0 -> (∀ tm', (∀ i v, tm i = some v -> tm' i = some v) -> x.E z e' tm' n_) -> x.W (z + y) 0 e tm
theorem bT8 {e' : En} {v : MV} {y : Nat} (h : LF L a b n) (hb : b <= a + 10) (hn : n < 1000000) (hne : L ≠ []) (D : Dsp g.sp n0 L y z e e' tm) (R : Rw g (z + y + 1) (e.plus n0 tm) w tl c) (q : ∀ tm', (∀ i v, tm i = some v -> tm' i = some v) -> Lk g z (e'.plus n0 tm') (fun _ => K v) n_) : endS (GaF P (k + 1)) L K v (FW w tl) c := by
 refine aO8 (m := 1) (z := z + y) h hb hn R (fun h => absurd h hne) ?_
 intro x O e1 e2 e3 e4 hM e5 e6 hK
 obtain ⟨xP, xk, xst, xj, xM, xL, xK, xg, xn⟩ := x
 subst e1 e2 e3 e4
 exact D (x := ⟨xP, xk, xst, xj, xM, xL, _, xg, n0⟩) ⟨O.F, O.hm⟩ e6 rfl rfl fun tm' h => hK (v := n_) fun w tl c R => q tm' h w tl c R
theorem eE7 {lid l u : Nat} (hl : lid <= n0) (h : e.vars lid = some (useV u)) : Dsp g.sp n0 (lowU lid l u) 13 z e (match useV u with | .none => e | _ => e.ev (V "over") 1090) tm := by
 intro x O _ hL hn k
 subst hn
 have S : Seg x.L 0 (lowU lid l u) := by rw [hL]; exact aI _
 have hv : (e.plus x.n0 tm).vars lid = some (useV u) := (aU0 hl).trans h
 have kk := k tm fun _ _ h => h
 by_cases h2 : u = 2
 ·subst h2
  have fin : x.W z 2 (e.ev (V "over") 1090) tm := by have := bB O kk; rw [hL] at this; exact this
  exact W_le (z := z + 9) (by lia) (aA2 (z := z + 5) O S.1 (aK3 (z := z + 4) (a := 1090) (.inr (.inr (.inr (.inr ⟨rfl, rfl, rfl, rfl⟩)))) hv (aC4 O S.2.1 fin)))
 ·have e1 : lowU lid l u = [cIf (eNN 18 lid) 0 l, aH2 18 lid 18 8 1, cLab l] := by unfold lowU; split <;> first | exact absurd rfl h2 | rfl
  rw [e1] at S
  have fin : x.W z 3 (match useV u with | .none => e | _ => e.ev (V "over") 1090) tm := by have := bB O kk; rw [hL, e1] at this; exact this
  by_cases h1 : u = 1
  ·subst h1
   exact W_le (z := z + 8) (by lia) (aA2 (z := z + 4) O S.1 (bC2 (.inl rfl) hv (fun _ => aJ O S.2.2.1 fin) fun h => absurd rfl h))
  ·have e2 : useV u = pi 1090 := by unfold useV; split <;> first | exact absurd rfl h1 | rfl
   rw [e2] at hv fin
   exact W_le (z := z + 13) (by lia) (aA2 (z := z + 9) O S.1 (bC2 (.inl rfl) hv (fun h => nomatch h) fun _ => aA2 (z := z + 5) O S.2.1 (aK3 (z := z + 4) (a := 1090) (.inl ⟨rfl, rfl, rfl, rfl⟩) hv (aC4 O S.2.2.1 fin))))
theorem cS {lid u : Nat} {b : T} (hl : lid <= n0) (hnl : nl (.usg u lid b) <= 80) (hln : ln (.usg u lid b) < 1000000) (B : Cmp n0 b) : Cmp n0 (.usg u lid b) := by
 intro x O hn z p q tb ta lc vc tm e hd S hq h1 h2 hv ht k
 subst hn
 have nlb : nl b <= 80 := zzc hnl
 have lnb : ln b < 1000000 := zzG (zzE _ _) hln
 obtain ⟨xP, xk, xst, xj, xM, xL, xK, xg, xn⟩ := x
 cases xk with
 | zero => exact absurd hd (Nat.not_succ_le_zero _)
 | succ xk =>
  have hd : dep b <= xk := zzK hd
  have lb := aE7 b tb ta lc vc
  have hq : p + 1 + 1 = q := hq
  subst hq
  refine aE8 k.1 (W_le (z := z + 32) (nR _) (aA2 (z := z + 28) O S.1 (dQ9 (z := z + 26) (cO0 (x := ⟨xP, xk + 1, xst, xj, xM, xL, xK, xg, xn⟩) (tm := tm) (e := ({ e with gas := e.gas - 32 } : En).emit (pi (fUse u)) (orZ (useV u))) hl (aA2 (z := z + 22) O S.2.1 fun u' w tl c f pl hu R hf => ?_)))))
  refine (bS0 0 xP (GaF xP (xk + 1)) _ c _ _ (FW w tl)).mpr (aJ4 (g := xg.at u') (z := z + 14) B hd nlb lnb h1 h2 hv ht R (aB5 b _ _ _ (fun r e k w tl c R => ?_) k.2))
  refine aT0 (bT8 (g := xg.at u') (a := (low b tb ta lc vc).2.1) (b := (low b tb ta lc vc).2.1 + 1) (n := 3) (lf_U lid _ u (zzb _) (nR _)) (by lia) (by decide) (by unfold lowU; split <;> exact List.cons_ne_nil _ _) (eE7 hl k.1) R fun tm' h w tl c R => ?_)
  exact cZ5 (x := ⟨xP, xk + 1, xst, xj, xM, xL, xK, xg, xn⟩) O (X_tm h k.2) hu R hf
end
section
variable {x : Cz} {k z p q tb ta lc n n0 i a b v each idx sort lid : Nat} {e : En} {tm tm' : Tm} {r : Rs} {g : Sg} {L : List PV} {sp : Spec} {wd : Bool}
noncomputable abbrev stpE (e : En) (each idx i : Nat) : En := { e.ev (V "step") each with live := e.live.set each (idx, i + 1) }
theorem aX7 {b : T} (B : Cmp n0 b) (O : x.Ok) (hn : x.n0 = n0) (hd : dep b <= x.k) (hl : lid <= n0) (hv : n0 < v) (ht : ∀ i, v < i -> tm i = none) (ht2 : tm v = some (pn each)) (hs : x.g.sp[idx]? = some sp) (hc : sp.count < 1000)
  (S : Seg x.L p (lowR lid wd sort v lc (low b (lc + 3) (lc + 2) (lc + 3) v).1)) (hq : p + (lowR lid wd sort v lc (low b (lc + 3) (lc + 2) (lc + 3) v).1).length = q) (hi : sp.count = n + i) (k : rdX (X x.g.tp x.g.sp b) lid each idx (x.X z q tb ta tm) n i e) : x.W (z + 17) p e tm := by
 subst hn
 have S1 := Seg.app (p := p + 1 + 1 + 1) (a := (low b (lc + 3) (lc + 2) (lc + 3) v).1) (b := [cLab (lc + 2), cIf (aI5 v sort) 1 (lc + 1), cLab (lc + 3)]) S.2.2.2
 have hq : p + 1 + 1 + 1 + (low b (lc + 3) (lc + 2) (lc + 3) v).1.length + 1 + 1 + 1 = q := by
  rw [<- hq, show lowR lid wd sort v lc (low b (lc + 3) (lc + 2) (lc + 3) v).1 = [cGo (lc + 2), cLab (lc + 1), cNow lid wd v sort] ++ ((low b (lc + 3) (lc + 2) (lc + 3) v).1 ++ [cLab (lc + 2), cIf (aI5 v sort) 1 (lc + 1), cLab (lc + 3)]) from rfl, len_app, len_app]
  show _ = p + (3 + (_ + 3)); lia
 have hvar : ∀ e : En, (e.plus x.n0 tm).vars v = some (pn each) := fun e => (aB8 hv).trans ht2
 have T : ∀ n i e, sp.count = n + i -> rdX (X x.g.tp x.g.sp b) lid each idx (x.X z q tb ta tm) n i e -> x.W (z + 13) (p + 1 + 1 + 1 + (low b (lc + 3) (lc + 2) (lc + 3) v).1.length) e tm := by
  intro n
  induction n with
  | zero => exact fun i e hi k => aC4 (z := z + 9) O S1.2.1 (aA2 (z := z + 5) O S1.2.2.1 (bV (z := z + 4) (hvar e) k.1 hs (fun h => absurd h (by lia)) fun _ => aC4 (e := stpE e each idx i) O S1.2.2.2.1 (hq ▸ k.2)))
  | succ n ih =>
   intro i e hi k
   have hl1 : (stpE { e with gas := e.gas - 19 } each idx i).live[each]? = some (idx, i + 1) := zze (zzA.mp k.1).1
   refine aE8 k.2.1 (W_le (z := z + 32) (by lia) (aC4 (z := z + 28) O S1.2.1 (aA2 (z := z + 24) O S1.2.2.1 (bV (z := z + 23) (hvar _) k.1 hs (fun _ => ?_) fun h => absurd (show i + 1 <= sp.count by lia) h))))
   refine aJ (z := z + 19) (e := stpE { e with gas := e.gas - 19 } each idx i) O S.2.1 (aA2 (z := z + 15) O S.2.2.1 (dF7 (z := z + 13) (e := (stpE { e with gas := e.gas - 19 } each idx i).plus x.n0 tm) (hvar _) hl1 (by lia) (cO0 (e := (stpE { e with gas := e.gas - 19 } each idx i).ev (V "now") each) hl ?_)))
   exact B O rfl hd S1.1 rfl (nR _) (by lia) (Nat.le_of_lt hv) ht (aB5 b _ _ _ (fun r e k => aU1 O k S1.2.1 S1.2.2.2.1 hq (by lia) fun k => ih (i + 1) e (by lia) k) k.2.2)
 exact w_go O S.1 (j_in O S1.2.1 (T n i e hi k))
theorem aO6 {b : List PV} (O : x.Ok) (hv : x.n0 < v) (ht2 : tm v = some .none) (S : Seg x.L p (lowR lid wd sort v lc b)) (k : x.E z e tm (rv (.thr 1))) : x.W (z + 14) p e tm := by
 have S1 := Seg.app (p := p + 1 + 1 + 1) (a := b) (b := [cLab (lc + 2), cIf (aI5 v sort) 1 (lc + 1), cLab (lc + 3)]) S.2.2.2
 exact w_go (z := z + 10) O S.1 (aJ (z := z + 6) O S1.2.1 (aA2 (z := z + 2) O S1.2.2.1 (bY7 ((aB8 hv).trans ht2) k)))
theorem cD1 (h : hasD sort = true) : sort = 1 ∨ sort = 2 ∨ sort = 3 ∨ sort = 4 := by
 match sort, h with
 | 1, _ => exact .inl rfl
 | 2, _ => exact .inr (.inl rfl)
 | 3, _ => exact .inr (.inr (.inl rfl))
 | 4, _ => exact .inr (.inr (.inr rfl))
theorem dZ7 {lc' vc' cnt : Nat} (hs : g.sp[idx]? = some sp) (hd : hasD sort = true) (hk : sp.disp = true ∨ sort = 1) (hv : n0 < v) (hvc : v <= vc') (ht : ∀ i, vc' < i -> tm i = none) (ht2 : tm v = some (pn each)) (hl : e.live[each]? = some (idx, cnt)) :
  Dsp g.sp n0 (lowD v lc' vc' sort).1 18 z e (match sp.disp with | true => e.ev (V "over") each | false => e) tm := by
 intro x O hsp hL hn k
 subst hn
 rw [<- hsp] at hs
 have S : Seg x.L 0 (lowD v lc' vc' sort).1 := by rw [hL]; exact aI _
 have hvar : ∀ {tm' : Tm} {e : En}, tm' v = some (pn each) -> (e.plus x.n0 tm').vars v = some (pn each) := fun h => (aB8 hv).trans h
 have fin : ∀ tm', (∀ i v, tm i = some v -> tm' i = some v) -> x.W z (lowD v lc' vc' sort).1.length (match sp.disp with | true => e.ev (V "over") each | false => e) tm' := fun tm' h => by have := bB O (k tm' h); rw [hL] at this; exact this
 rcases cD1 hd with h | h | h | h <;> subst h
 ·refine aA2 (z := z + 14) O S.1 (dY6 (z := z + 13) (hvar ht2) hl hs (fun d => aS9 (by lia) ?_) fun d => aS9 (by lia) ?_) <;> rw [d] at fin
  ·exact W_le (z := z + 8) (by lia) (aA2 (z := z + 4) O S.2.1 (bC2 (.inl rfl) ((aB8 (by lia)).trans aL2) (fun _ => aJ O S.2.2.2.1 (fin _ (aD4 ht))) fun h => absurd rfl h))
  ·exact aA2 (z := z + 9) O S.2.1 (bC2 (.inl rfl) ((aB8 (by lia)).trans aL2) (fun h => nomatch h) fun _ => aA2 (z := z + 5) O S.2.2.1 (aK3 (z := z + 4) (.inl ⟨rfl, rfl, rfl, rfl⟩) ((aB8 (by lia)).trans aL2) (aC4 O S.2.2.2.1 (fin _ (aD4 ht)))))
 all_goals
  rw [hk.elim id fun h => nomatch h] at fin
  have fin := fin tm fun _ _ h => h
 ·exact W_le (z := z + 13) (by lia) (aA2 (z := z + 9) O S.1 (bC2 (.inr rfl) (hvar ht2) (fun h => nomatch h) fun _ => aA2 (z := z + 5) O S.2.1 (aK3 (z := z + 4) (.inr (.inl ⟨rfl, rfl, rfl, rfl⟩)) (hvar ht2) (aC4 O S.2.2.1 fin))))
 ·exact W_le (z := z + 5) (by lia) (aA2 (z := z + 1) O S.1 (aK3 (.inr (.inr (.inl ⟨rfl, rfl, rfl, rfl⟩))) (hvar ht2) fin))
 ·exact W_le (z := z + 5) (by lia) (aA2 (z := z + 1) O S.1 (aK3 (.inr (.inr (.inr (.inl ⟨rfl, rfl, rfl, rfl⟩)))) (hvar ht2) fin))
theorem dZ8 {lc' vc' : Nat} (hd : hasD sort = true) (hc : isC sort = true) (hv : n0 < v) (hvc : v <= vc') (ht : ∀ i, vc' < i -> tm i = none) (ht2 : tm v = some .none) : Dsp g.sp n0 (lowD v lc' vc' sort).1 18 z e e tm := by
 intro x O hsp hL hn k
 subst hn
 have S : Seg x.L 0 (lowD v lc' vc' sort).1 := by rw [hL]; exact aI _
 have hvar : (e.plus x.n0 tm).vars v = some .none := (aB8 hv).trans ht2
 have fin : ∀ tm', (∀ i v, tm i = some v -> tm' i = some v) -> x.W z (lowD v lc' vc' sort).1.length e tm' := fun tm' h => by have := bB O (k tm' h); rw [hL] at this; exact this
 rcases cD1 hd with h | h | h | h <;> subst h
 ·exact W_le (z := z + 13) (by lia) (aA2 (z := z + 9) O S.1 (dM (z := z + 8) hvar (aS9 (by lia) (aA2 (z := z + 4) O S.2.1 (bC2 (.inl rfl) ((aB8 (by lia)).trans aL2) (fun _ => aJ O S.2.2.2.1 (fin _ (aD4 ht))) fun h => absurd rfl h)))))
 ·exact W_le (z := z + 8) (by lia) (aA2 (z := z + 4) O S.1 (bC2 (.inr rfl) hvar (fun _ => aJ O S.2.2.1 (fin _ fun _ _ h => h)) fun h => absurd rfl h))
 ·exact nomatch hc
 ·exact nomatch hc
end
section
variable {x : Cz} {P : PI} {k z p q l tb ta lc vc n n0 i m a b v each idx sort lid : Nat} {e : En} {tm tm' : Tm} {s : PV} {r : Rs} {g : Sg} {w : FD} {tl : Mem} {c f : Nat} {u : Int} {pl : MV} {L : List PV} {sp : Spec} {wd : Bool}
theorem fl_X (O : x.Ok) (h1 : aA9 (pn tb) x.M = none) (h2 : aA9 (pn ta) x.M = none) (k : x.E z e tm (fv tb ta r)) : x.X z x.L.length tb ta tm r e := by
 cases r with
 | next => exact bB O k
 | brk => exact bG0 O.F h1 k
 | cont => exact bG0 O.F h2 k
 | ret v => exact k
 | thr v => exact k
theorem bQ2 {b l : List PV} {a d n a' b' n' : Nat} {e : En} (O : x.Ok) (hd : 1 <= x.k) (hs : x.L[p]? = some (cTry b (.tup []) (aA1 l))) (hb : LF b a d n) (hb1 : d <= a + 10 * 8) (hb2 : n < 1000000) (hb3 : b ≠ []) (hl : LF l a' b' n') (hl1 : b' <= a' + 10) (hl2 : n' < 1000000) (hl3 : l ≠ []) (h1 : tb <= a) (h2 : ta <= a)
  (D : Rs -> En -> Prop) (hD : ∀ r e, D r e -> ∃ e', Dsp x.g.sp x.n0 l 18 z e e' tm /\ ∀ tm', (∀ i v, tm i = some v -> tm' i = some v) -> x.X z (p + 1) tb ta tm' r e')
  (q : ∀ x' : Cz, x'.Ok -> x'.P = x.P -> x'.k + 1 = x.k -> x'.n0 = x.n0 -> x'.L = b -> x'.g.tp = x.g.tp -> x'.g.sp = x.g.sp -> (∀ r e, D r e -> x'.X (z + 19) x'.L.length tb ta tm r e) -> x'.W (z + 44) 0 e tm) : x.W (z + 56) p e tm := by
 obtain ⟨xP, xk, xst, xj, xM, xL, xK, xg, xn⟩ := x
 cases xk with
 | zero => exact absurd hd (Nat.not_succ_le_zero _)
 | succ xk =>
  refine aA2 (z := z + 52) O hs fun u w tl c f pl hu R hf => (bS0 0 xP (GaF xP (xk + 1)) _ c b l (FW w tl)).mpr ?_
  refine aO8 (g := xg.at u) (m := 8) (z := z + 44) hb hb1 hb2 R (fun h => absurd h hb3) ?_
  intro x' O' e1 e2 e3 e4 hM e5 e6 hK
  obtain ⟨yP, yk, yst, yj, yM, yL, yK, yg, yn⟩ := x'
  dsimp only at e1 e2 e3 e4
  subst e1 e2 e3 e4
  refine q ⟨yP, yk, yst, yj, yM, yL, _, yg, xn⟩ ⟨O'.F, O'.hm⟩ rfl rfl rfl rfl e5 e6 fun r e k => fl_X ⟨O'.F, O'.hm⟩ (hM tb h1) (hM ta h2) (hK fun w tl c R => aT0 ?_)
  exact ex1 (hD r e k) fun e' k => bT8 (g := xg.at u) hl hl1 hl2 hl3 k.1 R fun tm' h w tl c R => cZ5 (x := ⟨yP, yk + 1, xst, xj, xM, xL, xK, xg, xn⟩) O (k.2 tm' h) hu R hf
theorem cV2 {b : T} (hl : lid <= n0) (hnl : nl (.pat lid wd sort idx b) <= 80) (hln : ln (.pat lid wd sort idx b) < 1000000) (B : Cmp n0 b) : Cmp n0 (.pat lid wd sort idx b) := by
 intro x O hn z p q tb ta lc vc tm e hd S hq h1 h2 hv ht k
 subst hn
 have nlb : 4 + nl b <= 80 := hnl
 have lnb : 1 + (1 + (1 + 1) + (ln b + (1 + (1 + 1)))) < 1000000 := hln
 have lb := aE7 b (lc + 3) (lc + 2) (lc + 3) (vc + 1)
 have hb1 : (low b (lc + 3) (lc + 2) (lc + 3) (vc + 1)).2.1 <= lc + 10 * 8 := nT lb.2.1 (by lia)
 have hb2 : 1 + (1 + 1) + (ln b + (1 + (1 + 1))) < 1000000 := by lia
 have hd' : dep b + 1 <= x.k := hd
 refine aE8 k.1 (aB k.2 fun s hs k => ?_)
 refine aA k.1 fun o1 o3 => aA o1 fun o1 o2 => ?_
 have hc : s.count < 1000 := zzU o3
 have hle : s.nullE = true -> isC sort = true := fun h => by rw [h] at o1; exact o1
 have hdi : s.disp = true ∨ sort = 1 := by
  cases h : s.disp with
  | true => exact .inl rfl
  | false => rw [h] at o2; exact .inr (zzX o2)
 have k := k.2
 have kn : ∀ v, ∀ i u, tm i = some u -> put1 tm (vc + 1) v i = some u := fun v => aD4 ht
 have hs0 : x.L[p]? = some (cGet (vc + 1) sort idx) := by
  revert S; show Seg x.L p (patL (hasD sort) _ _ _ _).1 -> _
  cases hasD sort <;> exact fun S => S.1
 refine W_le (z := z + 64) (by lia) (aA2 (z := z + 60) O hs0 (dJ2 (z := z + 56) hs (fun d => ?_) (fun d d2 => ?_) fun d d2 => ?_)) <;> rw [d] at k
 ·exact E_le (nA _ _) k
 all_goals rw [d2] at k
 ·refine aS9 (e := (({ e with gas := e.gas - 64 } : En).emit (pi (1100 + idx)) (pn idx)).ev (V "get") idx) (by lia) ?_
  revert S hq
  show Seg x.L p (patL (hasD sort) _ _ _ _).1 -> p + (patL (hasD sort) _ _ _ _).1.length = q -> _
  cases hD : hasD sort with
  | false => exact fun S hq => W_le (z := z + 14) (by lia) (aO6 O (by lia) aL2 S.2 (X_tm (r := .thr 1) (q := q) (tb := tb) (ta := ta) (kn _) k))
  | true =>
   intro S hq
   have hq : p + 1 + 1 = q := hq
   subst hq
   have ld := lf_D (vc + 1) (low b (lc + 3) (lc + 2) (lc + 3) (vc + 1)).2.1 (low b (lc + 3) (lc + 2) (lc + 3) (vc + 1)).2.2 sort
   refine bQ2 O (nT (zzd (zzN _)) hd) S.2.1 (bU8 lid wd sort (vc + 1) lb.1) hb1 hb2 (List.cons_ne_nil _ _) ld.1 (nT ld.2.1 (by lia)) (by decide) (by rcases cD1 hD with h | h | h | h <;> subst h <;> exact List.cons_ne_nil _ _) h1 h2
    (fun r e' => r = .thr 1 /\ e' = (({ e with gas := e.gas - 64 } : En).emit (pi (1100 + idx)) (pn idx)).ev (V "get") idx) (fun r e' h => ?_) fun x' O' e1 e2 e3 e4 e5 e6 hx => ?_
   ·obtain ⟨rfl, rfl⟩ := h
    exact ⟨_, dZ8 (v := vc + 1) (n0 := x.n0) hD (hle d2) (Nat.lt_succ_of_le hv) lb.2.2 (fun i h => aE6 ht i (zzG lb.2.2 h)) aL2, fun tm' h => X_tm (fun i v h' => h i v (kn _ i v h')) k⟩
   ·exact W_le (z := z + 19 + 14) (by lia) (aO6 O' (by lia) aL2 (by rw [e4]; exact aI _) (hx (.thr 1) _ ⟨rfl, rfl⟩))
 ·refine aS9 (e := { (({ e with gas := e.gas - 64 } : En).emit (pi (1100 + idx)) (pn idx)).ev (V "get") idx with live := e.live ++ [(idx, 0)] }) (by lia) ?_
  revert S hq k
  show Seg x.L p (patL (hasD sort) _ _ _ _).1 -> p + (patL (hasD sort) _ _ _ _).1.length = q -> rdX _ _ _ _ (fun y e' => (∃ cnt, e'.live[e.live.length]? = some (idx, cnt)) /\ x.X z q tb ta tm y (match hasD sort && s.disp with | true => e'.ev (V "over") e.live.length | false => e')) _ _ _ -> _
  cases hD : hasD sort with
  | false =>
   intro S hq k
   exact W_le (z := z + 17) (by lia) (aX7 B O rfl (zzc hd) hl (by lia) (aE6 ht) aL2 hs hc S.2 (by rw [<- hq]; show _ = p + (_ + 1); lia) rfl (aK (b := X x.g.tp x.g.sp b) (aB5 b) (fun r e k => X_tm (kn _) k.2) _ _ _ k))
  | true =>
   intro S hq k
   have hq : p + 1 + 1 = q := hq
   subst hq
   have ld := lf_D (vc + 1) (low b (lc + 3) (lc + 2) (lc + 3) (vc + 1)).2.1 (low b (lc + 3) (lc + 2) (lc + 3) (vc + 1)).2.2 sort
   refine bQ2 O (nT (zzd (zzN _)) hd) S.2.1 (bU8 lid wd sort (vc + 1) lb.1) hb1 hb2 (List.cons_ne_nil _ _) ld.1 (nT ld.2.1 (by lia)) (by decide) (by rcases cD1 hD with h | h | h | h <;> subst h <;> exact List.cons_ne_nil _ _) h1 h2
    (fun y e' => (∃ cnt, e'.live[e.live.length]? = some (idx, cnt)) /\ x.X z (p + 1 + 1) tb ta tm y (match true && s.disp with | true => e'.ev (V "over") e.live.length | false => e')) (fun r e' h => ?_) fun x' O' e1 e2 e3 e4 e5 e6 hx => ?_
   ·exact ex1 h.1 fun cnt hc => ⟨_, dZ7 (v := vc + 1) (each := e.live.length) (n0 := x.n0) hs hD hdi (Nat.lt_succ_of_le hv) lb.2.2 (fun i h => aE6 ht i (zzG lb.2.2 h)) aL2 hc, fun tm' h' => X_tm (fun i v h'' => h' i v (kn _ i v h'')) h.2⟩
   ·exact W_le (z := z + 19 + 17) (by lia) (aX7 B O' e3 (zzK (nT hd' (Nat.le_of_eq e2.symm))) hl (by lia) (aE6 ht) aL2 (e6.symm ▸ hs) hc (by rw [e4]; exact aI _) (by rw [e4, Nat.zero_add]) rfl (aK (b := X x'.g.tp x'.g.sp b) (aB5 b) hx _ _ _ (by rw [e5, e6]; exact k)))
end
noncomputable def Vk (n0 : Nat) : T -> Prop
 | .cons s r => Vk n0 s /\ Vk n0 r
 | .blk l => Vk n0 l
 | .ex (.shown lid _ _) => lid <= n0
 | .ask y n => Vk n0 y /\ Vk n0 n
 | .whil _ b => Vk n0 b
 | .dow _ b => Vk n0 b
 | .for_ _ _ _ _ b => Vk n0 b
 | .try_ lid b h l => lid <= n0 /\ Vk n0 b /\ Vk n0 h /\ Vk n0 l
 | .usg _ lid b => lid <= n0 /\ Vk n0 b
 | .arr lid _ _ b => lid <= n0 /\ Vk n0 b
 | .pat lid _ _ _ b => lid <= n0 /\ Vk n0 b
 | _ => True
section
variable {n0 : Nat} (h0 : 1 <= n0)
include h0
theorem bK0 (t : T) : Ok t -> Vk n0 t -> nl t <= 80 -> ln t < 1000000 -> Cmp n0 t := by
 induction t with
 | nil => exact fun _ _ _ _ => cM0
 | cons s r i1 i2 => exact fun o v a b => cG1 (i1 o.2.2.1 v.1 (nT (nA _ _) a) (zzG (nA _ _) b)) (i2 o.2.2.2 v.2 (nT (zzE _ _) a) (zzG (zzE _ _) b))
 | blk l ih => exact fun o v a b => cM3 (ih o.2 v a b)
 | ex x => exact fun o v a b => dC3 o h0 fun lid k ev h => by subst h; exact v
 | jump j => exact fun o v a b => cA9 o
 | ask y n i1 i2 => exact fun o v a b => cU6 (i1 o.2.2.1 v.1 (by have : 2 + nl y + nl n <= 80 := a; lia) (by have : 1 + (ln y + (1 + 1) + (ln n + 1)) < 1000000 := b; lia)) (i2 o.2.2.2 v.2 (by have : 2 + nl y + nl n <= 80 := a; lia) (by have : 1 + (ln y + (1 + 1) + (ln n + 1)) < 1000000 := b; lia))
 | whil t b ih => exact fun o v a c => bY2 (ih o.2 v (nT (zzE _ _) a) (by have : 1 + 1 + (ln b + (1 + (1 + 1))) < 1000000 := c; lia))
 | dow t b ih => exact fun o v a c => cW4 (ih o.2.2 v (nT (zzE _ _) a) (by have : 1 + (ln b + (1 + (1 + 1))) < 1000000 := c; lia))
 | for_ e1 t e2 e3 b ih => exact fun o v a c => cP o.2.1 o.2.2.1 o.2.2.2.1 (ih o.2.2.2.2 v (nT (zzE _ _) a) (by have : 1 + (1 + 1) + (ln b + (1 + (1 + (1 + 1)) + (1 + 1))) < 1000000 := c; lia))
 | try_ lid b h l i1 i2 i3 => exact fun o v a c => cR8 v.1 a c (i1 o.2.2.2.1 v.2.1 (le3 a).1 (lt4 c).1) (i2 o.2.2.2.2.1 v.2.2.1 (le3 a).2.1 (lt4 c).2.1) (i3 o.2.2.2.2.2 v.2.2.2 (le3 a).2.2 (lt4 c).2.2)
 | usg w lid b ih => exact fun o v a c => cS v.1 a c (ih o.2 v.2 (zzc a) (zzG (zzE _ _) c))
 | arr lid wd src b ih => exact fun o v a c => dB o v.1 h0 (ih o.2.2 v.2 (nT (zzE _ _) a) (by have : 1 + (1 + (1 + (1 + 1))) + (ln b + (1 + (1 + (1 + (1 + 1))))) < 1000000 := c; lia))
 | pat lid wd sort idx b ih => exact fun o v a c => cV2 v.1 a c (ih o.2 v.2 (nT (zzE _ _) a) (by have : 1 + (1 + (1 + 1) + (ln b + (1 + (1 + 1)))) < 1000000 := c; lia))
end
noncomputable def ones (tp : List Bool) (e : En) : Nat := (tp.drop e.at_).count true
noncomputable def Held (e : En) : Prop := ∃ a, e.vars 1 = some (arrV a) /\ ∀ l, a = some l -> l.length <= 3
noncomputable def Ab (m : Nat) : T -> Prop
 | .cons s r => Ab m s /\ Ab m r
 | .blk l => Ab m l
 | .ask y n => Ab m y /\ Ab m n
 | .whil _ b => Ab m b
 | .dow _ b => Ab m b
 | .for_ _ _ _ _ b => Ab m b
 | .try_ lid b h l => (lid = 0 ∨ m < lid) /\ Ab m b /\ Ab m h /\ Ab m l
 | .usg _ lid b => m < lid /\ Ab m b
 | .arr lid _ _ b => m < lid /\ Ab m b
 | .pat lid _ _ _ b => m < lid /\ Ab m b
 | _ => True
noncomputable def nn : T -> Bool
 | .cons s r => nn s || nn r
 | .blk l => nn l
 | .jump _ => true
 | _ => false
noncomputable def aC0 : Tst -> Bool
 | .one => true
 | .non => true
 | _ => false
noncomputable def OkT (sp : List Spec) : Bool -> List Nat -> T -> Prop
 | lp, D, .cons s r => OkT sp lp D s /\ OkT sp lp D r
 | lp, D, .blk l => OkT sp lp D l
 | lp, D, .ex (.shown lid _ _) => lid ∈ D
 | lp, D, .jump .brk => lp = true
 | lp, D, .jump .cont => False
 | lp, D, .ask y n => (y = .jump .cont /\ n = .nil /\ lp = true) ∨ (OkT sp lp D y /\ OkT sp lp D n)
 | lp, D, .whil t b => (aC0 t = true -> nn b = true) /\ OkT sp true D b
 | lp, D, .dow t b => aC0 t = false /\ OkT sp true D b
 | lp, D, .for_ _ t _ _ b => (aC0 t = true -> nn b = true) /\ OkT sp true D b
 | lp, D, .try_ lid b h l => (lid = 0 ∨ 1 < lid) /\ OkT sp lp D b /\ OkT sp lp (lid :: D) h /\ OkT sp false D l
 | lp, D, .usg _ lid b => 1 < lid /\ Ab lid b /\ OkT sp lp D b
 | lp, D, .arr lid _ _ b => 1 < lid /\ OkT sp true (lid :: D) b
 | lp, D, .pat lid _ sort idx b => 1 < lid /\ (∃ s, sp[idx]? = some s /\ okSp sort s = true /\ s.count <= 3) /\ OkT sp true (lid :: D) b
 | _, _, _ => True
noncomputable def W : T -> Nat
 | .nil => 0
 | .cons s r => W s + W r
 | .blk l => W l
 | .ex _ => 6
 | .jump _ => 5
 | .ask y n => 13 + (W y + W n)
 | .whil _ b => 21 + W b
 | .dow _ b => 8 + (W b + 13)
 | .for_ _ _ _ _ b => 26 + W b
 | .try_ _ b h l => 32 + (W b + (W h + W l))
 | .usg _ _ b => 32 + W b
 | .arr _ _ _ b => 27 + 3 * (26 + W b)
 | .pat _ _ _ _ b => 64 + 3 * (19 + W b)
noncomputable def KB : T -> Nat
 | .cons s r => Nat.max (KB s) (KB r)
 | .blk l => KB l
 | .ask y n => Nat.max (KB y) (KB n)
 | .whil _ b => Nat.max (13 + W b) (KB b)
 | .dow _ b => Nat.max (13 + W b) (KB b)
 | .for_ _ _ _ _ b => Nat.max (27 + W b) (KB b)
 | .try_ _ b h l => Nat.max (KB b) (Nat.max (KB h) (KB l))
 | .usg _ _ b => KB b
 | .arr _ _ _ b => KB b
 | .pat _ _ _ _ b => KB b
 | _ => 0
section
variable {tp : List Bool} {kc m d d' n lb lb' : Nat} {e e' e1 e2 : En} {r : Rs}
theorem aH4 (tp : List Bool) (e : En) : ones tp e = ones tp (e.asked tp) + (match ans tp e with | true => 1 | false => 0) := by
 have h1 : ans tp e = (tp[e.at_]?).getD false := List.getD_eq_getElem?_getD ..
 show (tp.drop e.at_).count true = (tp.drop (e.at_ + 1)).count true + _
 rw [h1]
 by_cases h : e.at_ < tp.length
 ·rw [List.drop_eq_getElem_cons h, List.count_cons, zzT h]
  show _ = _ + (match tp[e.at_] with | true => 1 | false => 0)
  cases tp[e.at_] <;> rfl
 ·rw [List.drop_eq_nil_of_le (Nat.le_of_not_lt h), List.drop_eq_nil_of_le (by lia), List.getElem?_eq_none (Nat.le_of_not_lt h)]; rfl
structure Pr (tp : List Bool) (kc m lb d : Nat) (e e' : En) : Prop where
 gas : e.gas + kc * ones tp e' <= e'.gas + d + kc * ones tp e
 one : ones tp e' <= ones tp e
 held : Held e -> Held e'
 dom : ∀ i, (e.vars i).isSome = true -> (e'.vars i).isSome = true
 keep : ∀ i, 1 < i -> i <= m -> e'.vars i = e.vars i
 len : e.live.length <= e'.live.length
 live : ∀ i, i < lb -> e'.live[i]? = e.live[i]?
theorem Pr.trans (h : Pr tp kc m lb d e e1) (h' : Pr tp kc m lb' d' e1 e2) (hl : lb <= lb') : Pr tp kc m lb (d + d') e e2 :=
 ⟨by have := h.gas; have := h'.gas; lia, nT h'.one h.one, fun q => h'.held (h.held q), fun i q => h'.dom i (h.dom i q), fun i a b => (h'.keep i a b).trans (h.keep i a b), nT h.len h'.len, fun i q => (h'.live i (zzF q hl)).trans (h.live i q)⟩
theorem Pr.more (h : Pr tp kc m lb d e e') (q : d <= d') : Pr tp kc m lb d' e e' := ⟨by have := h.gas; lia, h.one, h.held, h.dom, h.keep, h.len, h.live⟩
theorem Pr.less {m' : Nat} (h : Pr tp kc m lb d e e') (q : m' <= m) : Pr tp kc m' lb d e e' := ⟨h.gas, h.one, h.held, h.dom, fun i a b => h.keep i a (nT b q), h.len, h.live⟩
theorem Pr.pay (h : n <= e.gas) (o : List PV) : Pr tp kc m lb n e { e with gas := e.gas - n, out := o } :=
 ⟨by show e.gas + kc * ones tp e <= e.gas - n + n + kc * ones tp e; lia, nR _, id, fun _ => id, fun _ _ _ => rfl, nR _, fun _ _ => rfl⟩
theorem Pr.out (o : List PV) : Pr tp kc m lb 0 e { e with out := o } := ⟨nR _, nR _, id, fun _ => id, fun _ _ _ => rfl, nR _, fun _ _ => rfl⟩
theorem Pr.asked : Pr tp kc m lb 0 e (e.asked tp) := by
 have ho := aH4 tp e
 have h1 : ones tp (e.asked tp) <= ones tp e := ho ▸ nA _ _
 exact ⟨by show e.gas + _ <= e.gas + 0 + _; have := Nat.mul_le_mul_left kc h1; lia, h1, id, fun _ => id, fun _ _ _ => rfl, nR _, fun _ _ => rfl⟩
theorem bF3 {lid i : Nat} {v : PV} (h : i ≠ lid) : (e.set lid v).vars i = e.vars i := by
 show (match Nat.beq i lid with | true => some v | false => e.vars i) = _
 cases q : Nat.beq i lid with
 | true => exact absurd (zzX q) h
 | false => rfl
theorem bD1 {lid : Nat} {v : PV} : (e.set lid v).vars lid = some v := by
 show (match Nat.beq lid lid with | true => some v | false => e.vars lid) = _
 rw [Nat.beq_refl]
theorem bB6 {lid i : Nat} {v : PV} (h : (e.vars i).isSome = true) : ((e.set lid v).vars i).isSome = true := by
 by_cases q : i = lid
 ·subst q; rw [bD1]; rfl
 ·rw [bF3 q]; exact h
theorem Held.set {lid : Nat} {v : PV} (hl : 1 < lid) (h : Held e) : Held (e.set lid v) := ex1 h fun a q => ⟨a, by rw [bF3 (Nat.ne_of_lt hl)]; exact q.1, q.2⟩
theorem Pr.set {lid : Nat} {v : PV} (hl : 1 < lid) (hm : m < lid) : Pr tp kc m lb 0 e (e.set lid v) :=
 ⟨nR _, nR _, Held.set hl, fun i => bB6, fun i _ b => bF3 (Nat.ne_of_lt (zzG b hm)), nR _, fun _ _ => rfl⟩
theorem dJ5 (r : Nat) (l : List Int) (h : rowL r = some l) : l.length <= 3 := by
 match r, h with
 | 0, h => cases h; decide
 | 1, h => cases h; decide
 | 2, h => cases h; decide
 | _ + 3, h => exact nomatch h
theorem Pr.hold (r : Nat) : Pr tp kc m lb 0 e (e.set 1 (arrV (rowL r))) :=
 ⟨nR _, nR _, fun _ => ⟨rowL r, bD1, dJ5 r⟩, fun i => bB6, fun i a _ => bF3 (Nat.ne_of_gt a), nR _, fun _ _ => rfl⟩
end
noncomputable def Rn (tp : List Bool) (kc m d : Nat) (lp nb : Bool) (e : En) (Q : Rs -> En -> Prop) : Prop := ∃ r e', Pr tp kc m e.live.length d e e' /\ (r = .cont -> e.gas + kc * ones tp e' + kc <= e'.gas + d + kc * ones tp e /\ ones tp e' < ones tp e) /\ (lp = false -> r ≠ .brk /\ r ≠ .cont) /\ (nb = true -> r ≠ .next) /\ Q r e'
noncomputable def Rl (tp : List Bool) (kc m lb d : Nat) (e : En) (Q : Rs -> En -> Prop) : Prop := ∃ r e', Pr tp kc m lb d e e' /\ (r ≠ .brk /\ r ≠ .cont) /\ Q r e'
noncomputable def Dc (D : List Nat) (e : En) : Prop := ∀ i ∈ D, (e.vars i).isSome = true
section
variable {tp : List Bool} {kc m d c wb j : Nat} {e e' e1 : En} {r : Rs} {D : List Nat} {b : KX -> En -> Prop} {f : List PV -> List PV} {t : Tst} {nb : Bool}
theorem Pr.dc {lb : Nat} (h : Pr tp kc m lb d e e') (q : Dc D e) : Dc D e' := fun i hi => h.dom i (q i hi)
theorem aB7 : Rs.next ≠ .brk /\ Rs.next ≠ .cont := by constructor <;> exact fun z => nomatch z
theorem aN9 {v : Int} : Rs.ret v ≠ .brk /\ Rs.ret v ≠ .cont := by constructor <;> exact fun z => nomatch z
theorem aH8 {v : Int} : Rs.thr v ≠ .brk /\ Rs.thr v ≠ .cont := by constructor <;> exact fun z => nomatch z
noncomputable abbrev lpP (tp : List Bool) (t : Tst) (c : Nat) (f : List PV -> List PV) (K : KX) : En -> (En -> Prop) -> Prop := fun e go => pay c e fun e => tstX tp t { e with out := f e.out } go (K .next)
variable (B : ∀ e, Held e -> Dc D e -> wb + kc * ones tp e <= e.gas -> Rn tp kc m wb true nb e (fun r e' => ∀ K : KX, K r e' -> b K e)) (hc : c + wb <= kc)
include B hc
theorem bT5 (hj : ∀ e, ones tp e <= j -> Held e -> Dc D e -> kc * ones tp e <= e.gas -> Rl tp kc m e.live.length 0 e (fun r e' => ∀ K : KX, K r e' -> tstX tp t e (lpX b (lpP tp t c f K) K j) (K .next))) (h1 : ones tp e <= j) (h2 : Held e) (h3 : Dc D e) (h4 : c + wb + kc * ones tp e <= e.gas) :
  Rl tp kc m e.live.length (c + wb) e (fun r e' => ∀ K : KX, K r e' -> lpX b (lpP tp t c f K) K (j + 1) e) := by
 refine ex2 (B e h2 h3 (by lia)) fun r e1 h => ?_
 obtain ⟨p, _, _, _, q⟩ := h
 have go : (∀ (K : KX) (g : En -> Prop), g e1 -> exX K g r e1) -> Rl tp kc m e.live.length (c + wb) e (fun r e' => ∀ K : KX, K r e' -> lpX b (lpP tp t c f K) K (j + 1) e) := fun hr => by
  have hg : c <= e1.gas := by have := p.gas; have := Nat.mul_le_mul_left kc p.one; lia
  have p2 : Pr tp kc m e.live.length c e1 { e1 with gas := e1.gas - c, out := f e1.out } := Pr.pay hg _
  refine ex2 (hj { e1 with gas := e1.gas - c, out := f e1.out } (nT p.one h1) (p.held h2) (p.dc h3) (by show kc * ones tp e1 <= e1.gas - c; have := p.gas; lia)) fun r' e' h => ?_
  exact ⟨r', e', ((p.trans p2 (nR _)).trans h.1 p.len).more (by lia), h.2.1, fun K k => q _ (hr K _ ⟨hg, h.2.2 K k⟩)⟩
 cases r with
 | next => exact go fun K g q => q
 | cont => exact go fun K g q => q
 | brk => exact ⟨.next, e1, p.more (zzE _ _), aB7, fun K k => q _ k⟩
 | ret v => exact ⟨.ret v, e1, p.more (zzE _ _), aN9, fun K k => q _ k⟩
 | thr v => exact ⟨.thr v, e1, p.more (zzE _ _), aH8, fun K k => q _ k⟩
theorem bA9 (ht : aC0 t = false) (j : Nat) : ∀ e, ones tp e <= j -> Held e -> Dc D e -> kc * ones tp e <= e.gas -> Rl tp kc m e.live.length 0 e (fun r e' => ∀ K : KX, K r e' -> tstX tp t e (lpX b (lpP tp t c f K) K j) (K .next)) := by
 induction j with
 | zero =>
  intro e h1 h2 h3 h4
  cases t with
  | zero => exact ⟨.next, e, Pr.out e.out, aB7, fun K k => k⟩
  | one => exact nomatch ht
  | non => exact nomatch ht
  | ask =>
   have ho := aH4 tp e
   cases ha : ans tp e with
   | true => rw [ha] at ho; exact absurd h1 (by rw [ho]; exact Nat.not_succ_le_zero _)
   | false => exact ⟨.next, e.asked tp, Pr.asked, aB7, fun K k => by show (match ans tp e with | true => _ | false => _); rw [ha]; exact k⟩
 | succ j ih =>
  intro e h1 h2 h3 h4
  cases t with
  | zero => exact ⟨.next, e, Pr.out e.out, aB7, fun K k => k⟩
  | one => exact nomatch ht
  | non => exact nomatch ht
  | ask =>
   have ho := aH4 tp e
   cases ha : ans tp e with
   | false => exact ⟨.next, e.asked tp, Pr.asked, aB7, fun K k => by show (match ans tp e with | true => _ | false => _); rw [ha]; exact k⟩
   | true =>
    rw [ha] at ho
    have ho : ones tp e = ones tp (e.asked tp) + 1 := ho
    have hk : kc * ones tp e = kc * ones tp (e.asked tp) + kc := by rw [ho, Nat.mul_succ]
    refine ex2 (bT5 (e := e.asked tp) (f := f) B hc ih (by lia) h2 h3 (by show c + wb + kc * ones tp (e.asked tp) <= e.gas; lia)) fun r e' h => ⟨r, e', ?_, h.2.1, fun K k => by show (match ans tp e with | true => _ | false => _); rw [ha]; exact h.2.2 K k⟩
    have p := h.1
    exact ⟨by have : e.gas + kc * ones tp e' <= e'.gas + (c + wb) + kc * ones tp (e.asked tp) := p.gas; lia, by have := p.one; lia, p.held, p.dom, p.keep, p.len, p.live⟩
theorem bW6 (ht : aC0 t = true) (hn : nb = true) (j : Nat) : ∀ e, ones tp e <= j -> Held e -> Dc D e -> wb + kc * ones tp e <= e.gas -> Rl tp kc m e.live.length wb e (fun r e' => ∀ K : KX, K r e' -> lpX b (lpP tp t c f K) K (j + 1) e) := by
 have tst : ∀ {e : En} {go stop : En -> Prop}, go e -> tstX tp t e go stop := fun q => by
  cases t with
  | one => exact q
  | non => exact q
  | _ => exact nomatch ht
 induction j with
 | zero =>
  intro e h1 h2 h3 h4
  refine ex2 (B e h2 h3 h4) fun r e1 h => ?_
  obtain ⟨p, hcnt, _, hnx, q⟩ := h
  cases r with
  | next => exact absurd rfl (hnx hn)
  | cont => exact absurd (hcnt rfl).2 (by lia)
  | brk => exact ⟨.next, e1, p, aB7, fun K k => q _ k⟩
  | ret v => exact ⟨.ret v, e1, p, aN9, fun K k => q _ k⟩
  | thr v => exact ⟨.thr v, e1, p, aH8, fun K k => q _ k⟩
 | succ j ih =>
  intro e h1 h2 h3 h4
  refine ex2 (B e h2 h3 h4) fun r e1 h => ?_
  obtain ⟨p, hcnt, _, hnx, q⟩ := h
  cases r with
  | next => exact absurd rfl (hnx hn)
  | cont =>
   have hq := hcnt rfl
   have hg : c <= e1.gas := by have := hq.1; lia
   refine ex2 (ih { e1 with gas := e1.gas - c, out := f e1.out } (by show ones tp e1 <= j; lia) (p.held h2) (p.dc h3) (by show wb + kc * ones tp e1 <= e1.gas - c; have := hq.1; lia)) fun r' e' h => ?_
   have p2 : Pr tp kc m e.live.length c e1 { e1 with gas := e1.gas - c, out := f e1.out } := Pr.pay hg _
   have p3 := (p.trans p2 (nR _)).trans h.1 p.len
   exact ⟨r', e', ⟨by have a1 := hq.1; have a2 : e1.gas - c + kc * ones tp e' <= e'.gas + wb + kc * ones tp e1 := h.1.gas; lia, p3.one, p3.held, p3.dom, p3.keep, p3.len, p3.live⟩, h.2.1, fun K k => q _ ⟨hg, tst (h.2.2 K k)⟩⟩
  | brk => exact ⟨.next, e1, p, aB7, fun K k => q _ k⟩
  | ret v => exact ⟨.ret v, e1, p, aN9, fun K k => q _ k⟩
  | thr v => exact ⟨.thr v, e1, p, aH8, fun K k => q _ k⟩
end
section
variable {tp : List Bool} {kc m n wb lid each idx lb : Nat} {e e' e1 : En} {r : Rs} {D : List Nat} {b : KX -> En -> Prop} {nb : Bool}
theorem bV2 {v : PV} (h : Dc D e) : Dc (lid :: D) (e.set lid v) := fun i hi => by
 by_cases q : i = lid
 ·subst q; rw [bD1]; rfl
 ·exact bB6 (h i ((List.mem_cons.mp hi).resolve_left q))
variable (B : ∀ e, Held e -> Dc (lid :: D) e -> wb + kc * ones tp e <= e.gas -> Rn tp kc m wb true nb e (fun r e' => ∀ K : KX, K r e' -> b K e)) (hm : m < lid) (hl : 1 < lid)
include B hm hl
theorem eG7 (l : List Int) : ∀ e, Held e -> Dc D e -> l.length * (26 + wb) + kc * ones tp e <= e.gas -> Rl tp kc m e.live.length (l.length * (26 + wb)) e (fun r e' => ∀ K : KX, K r e' -> arX b lid K l e) := by
 induction l with
 | nil => exact fun e h1 h2 h3 => ⟨.next, e, (Pr.out e.out).more (zzN _), aB7, fun K k => k⟩
 | cons i l ih =>
  intro e h1 h2 h3
  have hmul : (i :: l).length * (26 + wb) = l.length * (26 + wb) + (26 + wb) := Nat.succ_mul _ _
  rw [hmul] at h3 ⊢
  have hg : 26 <= e.gas := by lia
  have p1 : Pr tp kc m e.live.length 26 e ({ e with gas := e.gas - 26 } : En) := Pr.pay hg e.out
  have p2 : Pr tp kc m e.live.length 0 ({ e with gas := e.gas - 26 } : En) (({ e with gas := e.gas - 26 } : En).set lid (pi i)) := Pr.set hl hm
  refine ex2 (B (({ e with gas := e.gas - 26 } : En).set lid (pi i)) (p2.held h1) (bV2 h2) (by show wb + kc * ones tp e <= e.gas - 26; lia)) fun r e1 h => ?_
  obtain ⟨p, _, _, _, q⟩ := h
  have P := (p1.trans p2 (nR _)).trans p (nR _)
  have go : (∀ (K : KX) (g : En -> Prop), g e1 -> exX K g r e1) -> Rl tp kc m e.live.length (l.length * (26 + wb) + (26 + wb)) e (fun r e' => ∀ K : KX, K r e' -> arX b lid K (i :: l) e) := fun hr =>
   ex2 (ih e1 (P.held h1) (P.dc h2) (by have := P.gas; lia)) fun r' e' h => ⟨r', e', (P.trans h.1 P.len).more (by lia), h.2.1, fun K k => ⟨hg, q _ (hr K _ (h.2.2 K k))⟩⟩
  cases r with
  | next => exact go fun K g q => q
  | cont => exact go fun K g q => q
  | brk => exact ⟨.next, e1, P.more (by lia), aB7, fun K k => ⟨hg, q _ k⟩⟩
  | ret v => exact ⟨.ret v, e1, P.more (by lia), aN9, fun K k => ⟨hg, q _ k⟩⟩
  | thr v => exact ⟨.thr v, e1, P.more (by lia), aH8, fun K k => ⟨hg, q _ k⟩⟩
theorem Pr.stp {i : Nat} {o : List PV} (hb : lb <= each) : Pr tp kc m lb 0 e { e with out := o, live := e.live.set each (idx, i) } :=
 ⟨nR _, nR _, id, fun _ => id, fun _ _ _ => rfl, Nat.le_of_eq List.length_set.symm, fun k hk => List.getElem?_set_ne (Nat.ne_of_gt (zzF hk hb))⟩
theorem eH (hb : lb <= each) (n : Nat) : ∀ i e, e.live[each]? = some (idx, i) -> Held e -> Dc D e -> n * (19 + wb) + kc * ones tp e <= e.gas -> Rl tp kc m lb (n * (19 + wb)) e (fun r e' => (∃ cnt, e'.live[each]? = some (idx, cnt)) /\ ∀ K : KX, K r e' -> rdX b lid each idx K n i e) := by
 induction n with
 | zero =>
  intro i e hi h1 h2 h3
  exact ⟨.next, { e.ev (V "step") each with live := e.live.set each (idx, i + 1) }, (Pr.stp B hm hl hb).more (zzN _), aB7, ⟨i + 1, zze (zzA.mp hi).1⟩, fun K k => ⟨hi, k⟩⟩
 | succ n ih =>
  intro i e hi h1 h2 h3
  have hmul : (n + 1) * (19 + wb) = n * (19 + wb) + (19 + wb) := Nat.succ_mul _ _
  rw [hmul] at h3 ⊢
  have hg : 19 <= e.gas := by lia
  have he : each < e.live.length := (zzA.mp hi).1
  have p1 : Pr tp kc m lb 19 e ({ e with gas := e.gas - 19 } : En) := Pr.pay hg e.out
  have p2 : Pr tp kc m lb 0 ({ e with gas := e.gas - 19 } : En) (({ ({ e with gas := e.gas - 19 } : En).ev (V "step") each with live := e.live.set each (idx, i + 1) } : En).ev (V "now") each) := Pr.stp B hm hl hb
  have p3 : Pr tp kc m lb 0 (({ ({ e with gas := e.gas - 19 } : En).ev (V "step") each with live := e.live.set each (idx, i + 1) } : En).ev (V "now") each) ((({ ({ e with gas := e.gas - 19 } : En).ev (V "step") each with live := e.live.set each (idx, i + 1) } : En).ev (V "now") each).set lid (pn (10 * (i + 1) + each))) := Pr.set hl hm
  refine ex2 (B ((({ ({ e with gas := e.gas - 19 } : En).ev (V "step") each with live := e.live.set each (idx, i + 1) } : En).ev (V "now") each).set lid (pn (10 * (i + 1) + each))) (p3.held h1) (bV2 h2) (by show wb + kc * ones tp e <= e.gas - 19; lia)) fun r e1 h => ?_
  obtain ⟨p, _, _, _, q⟩ := h
  have hl2 : (e.live.set each (idx, i + 1)).length = e.live.length := List.length_set
  have hl1 : e1.live[each]? = some (idx, i + 1) := (p.live each (by show each < (e.live.set each (idx, i + 1)).length; rw [hl2]; exact he)).trans (zze he)
  have P := ((p1.trans p2 (nR _)).trans p3 (nR _)).trans p (by show lb <= (e.live.set each (idx, i + 1)).length; rw [hl2]; lia)
  have go : (∀ (K : KX) (g : En -> Prop), g e1 -> exX K g r e1) -> Rl tp kc m lb (n * (19 + wb) + (19 + wb)) e (fun r e' => (∃ cnt, e'.live[each]? = some (idx, cnt)) /\ ∀ K : KX, K r e' -> rdX b lid each idx K (n + 1) i e) := fun hr =>
   ex2 (ih (i + 1) e1 hl1 (P.held h1) (P.dc h2) (by have := P.gas; lia)) fun r' e' h => ⟨r', e', (P.trans h.1 (nR _)).more (by lia), h.2.1, h.2.2.1, fun K k => ⟨hi, hg, q _ (hr K _ (h.2.2.2 K k))⟩⟩
  cases r with
  | next => exact go fun K g q => q
  | cont => exact go fun K g q => q
  | brk => exact ⟨.next, e1, P.more (by lia), aB7, ⟨_, hl1⟩, fun K k => ⟨hi, hg, q _ k⟩⟩
  | ret v => exact ⟨.ret v, e1, P.more (by lia), aN9, ⟨_, hl1⟩, fun K k => ⟨hi, hg, q _ k⟩⟩
  | thr v => exact ⟨.thr v, e1, P.more (by lia), aH8, ⟨_, hl1⟩, fun K k => ⟨hi, hg, q _ k⟩⟩
end
section
variable {tp : List Bool} {sp : List Spec} {kc m d d' n lb : Nat} {e e' e1 : En} {r r₁ : Rs} {D : List Nat} {lp nb nb' : Bool} {Q Q' : Rs -> En -> Prop}
noncomputable def Et (tp : List Bool) (sp : List Spec) (kc : Nat) (t : T) : Prop := ∀ lp D m e, OkT sp lp D t -> Ab m t -> KB t <= kc -> Held e -> Dc D e -> W t + kc * ones tp e <= e.gas -> Rn tp kc m (W t) lp (nn t) e (fun r e' => ∀ K : KX, K r e' -> X tp sp t K e)
theorem Rn.ahead (p : Pr tp kc m e.live.length n e e1) (h : Rn tp kc m d lp nb e1 Q) (hd : n + d <= d') (hn : nb' = true -> nb = true) (k : ∀ r e', Q r e' -> Q' r e') : Rn tp kc m d' lp nb' e Q' :=
 ex2 h fun r e' h => ⟨r, e', (p.trans h.1 p.len).more hd, fun z => by have a := h.2.1 z; have b := p.gas; exact ⟨by lia, zzF a.2 p.one⟩, h.2.2.1, fun z => h.2.2.2.1 (hn z), k r e' h.2.2.2.2⟩
theorem Rn.one (p : Pr tp kc m e.live.length d e e') (h : r ≠ .brk /\ r ≠ .cont) (hn : nb = true -> r ≠ .next) (q : Q r e') : Rn tp kc m d lp nb e Q := ⟨r, e', p, fun z => absurd z h.2, fun _ => h, hn, q⟩
theorem Rl.ahead (p : Pr tp kc m lb n e e1) (h : Rl tp kc m lb d e1 Q) (hlb : e.live.length = lb) (hd : n + d <= d') (k : ∀ r e', Q r e' -> Q' r e') : Rn tp kc m d' lp false e Q' := by
 subst hlb
 exact ex2 h fun r e' h => ⟨r, e', (p.trans h.1 (nR _)).more hd, fun z => absurd z h.2.1.2, fun _ => h.2.1, fun z => (nomatch z), k r e' h.2.2⟩
theorem cJ {l : T} (hl : Et tp sp kc l) (p : Pr tp kc m e.live.length d e e1) (c1 : r₁ = .cont -> e.gas + kc * ones tp e1 + kc <= e1.gas + d + kc * ones tp e /\ ones tp e1 < ones tp e) (l1 : lp = false -> r₁ ≠ .brk /\ r₁ ≠ .cont) (ok : OkT sp false D l) (ab : Ab m l) (hk : KB l <= kc) (h1 : Held e) (h2 : Dc D e) (h3 : d + W l + kc * ones tp e <= e.gas)
  (k : ∀ r e', (∀ K : KX, K r e' -> X tp sp l K e1) -> Q (finR r₁ r) e') : Rn tp kc m (d + W l) lp false e Q := by
 refine ex2 (hl false D m e1 ok ab hk (p.held h1) (p.dc h2) (by have := p.gas; lia)) fun r e' h => ?_
 obtain ⟨p2, _, o2, _, q⟩ := h
 have o2 := o2 rfl
 have P := p.trans p2 p.len
 cases r with
 | next => exact ⟨r₁, e', P, fun z => by have a := c1 z; have b := p2.gas; exact ⟨by lia, zzG p2.one a.2⟩, l1, fun z => (nomatch z), k .next e' q⟩
 | brk => exact absurd rfl o2.1
 | cont => exact absurd rfl o2.2
 | ret v => exact ⟨.ret v, e', P, fun z => (nomatch z), fun _ => aN9, fun z => (nomatch z), k (.ret v) e' q⟩
 | thr v => exact ⟨.thr v, e', P, fun z => (nomatch z), fun _ => aH8, fun z => (nomatch z), k (.thr v) e' q⟩
theorem cW6 {s t : T} (A : Et tp sp kc s) (B : Et tp sp kc t) : Et tp sp kc (.cons s t) := by
 intro lp D m e ok ab hk h1 h2 h3
 have hk := zzW.mp hk
 have hw : W (.cons s t) = W s + W t := rfl
 rw [hw] at h3 ⊢
 refine ex2 (A lp D m e ok.1 ab.1 hk.1 h1 h2 (by lia)) fun r e1 h => ?_
 obtain ⟨p, c1, l1, n1, q⟩ := h
 have stop : r ≠ .next -> (∀ K : KX, K r e1 -> X tp sp (.cons s t) K e) -> Rn tp kc m (W s + W t) lp (nn (.cons s t)) e (fun r e' => ∀ K : KX, K r e' -> X tp sp (.cons s t) K e) := fun hr q => ⟨r, e1, p.more (nA _ _), fun z => by have a := c1 z; exact ⟨by lia, a.2⟩, l1, fun _ => hr, q⟩
 cases r with
 | next =>
  refine Rn.ahead p (B lp D m e1 ok.2 ab.2 hk.2 (p.held h1) (p.dc h2) (by have := p.gas; lia)) (nR _) (fun z => ?_) fun r e' k K q' => q _ (k K q')
  have z : (nn s || nn t) = true := z
  cases hs : nn s with
  | true => exact absurd rfl (n1 hs)
  | false => rw [hs] at z; exact z
 | brk => exact stop (fun z => nomatch z) fun K k => q _ k
 | cont => exact stop (fun z => nomatch z) fun K k => q _ k
 | ret v => exact stop (fun z => nomatch z) fun K k => q _ k
 | thr v => exact stop (fun z => nomatch z) fun K k => q _ k
theorem eD (x : Sx) : Et tp sp kc (.ex x) := by
 intro lp D m e ok ab hk h1 h2 h3
 have h3 : 6 + kc * ones tp e <= e.gas := h3
 have g5 : 5 <= e.gas := by lia
 have g6 : 6 <= e.gas := by lia
 cases x with
 | say ev => exact Rn.one ((Pr.pay g5 _).more (show 5 <= 6 by decide)) aB7 (fun z => (nomatch z)) fun K k => ⟨g5, k⟩
 | hold r => exact Rn.one ((Pr.pay g6 _).trans (Pr.hold (lb := e.live.length) r) (nR _)) aB7 (fun z => (nomatch z)) fun K k => ⟨g6, k⟩
 | shown lid kind ev =>
  cases hv : e.vars lid with
  | none => exact absurd (h2 lid ok) (by rw [hv]; exact Bool.false_ne_true)
  | some v => exact Rn.one ((Pr.pay g5 (e.out ++ [.tup [pi (-ev), v]])).more (show 5 <= 6 by decide)) aB7 (fun z => (nomatch z)) fun K k => ⟨g5, by show som (e.vars lid) _; rw [hv]; exact k⟩
theorem cS3 (j : Jp) : Et tp sp kc (.jump j) := by
 intro lp D m e ok ab hk h1 h2 h3
 have g5 : 5 <= e.gas := nT (nA _ _) h3
 cases j with
 | brk => exact ⟨.brk, _, Pr.pay g5 e.out, fun z => (nomatch z), fun z => absurd (z.symm.trans ok) Bool.false_ne_true, fun _ z => (nomatch z), fun K k => ⟨g5, k⟩⟩
 | cont => exact False.elim ok
 | ret ev => exact Rn.one (Pr.pay g5 _) aN9 (fun _ z => (nomatch z)) fun K k => ⟨g5, k⟩
 | thr r => exact Rn.one (Pr.pay g5 _) aH8 (fun _ z => (nomatch z)) fun K k => ⟨g5, k⟩
theorem dI {y t : T} (A : Et tp sp kc y) (B : Et tp sp kc t) : Et tp sp kc (.ask y t) := by
 intro lp D m e ok ab hk h1 h2 h3
 have hk := zzW.mp hk
 have hw : W (.ask y t) = 13 + (W y + W t) := rfl
 rw [hw] at h3 ⊢
 have g : 13 <= e.gas := by lia
 have p : Pr tp kc m e.live.length 13 e (({ e with gas := e.gas - 13 } : En).asked tp) := (Pr.pay g e.out).trans (Pr.asked (lb := e.live.length)) (nR _)
 have ho := aH4 tp e
 have xT : ans tp e = true -> ∀ K, X tp sp y K (({ e with gas := e.gas - 13 } : En).asked tp) -> X tp sp (.ask y t) K e := fun d K k => ⟨g, by show (match ans tp e with | true => _ | false => _); rw [d]; exact k⟩
 have xF : ans tp e = false -> ∀ K, X tp sp t K (({ e with gas := e.gas - 13 } : En).asked tp) -> X tp sp (.ask y t) K e := fun d K k => ⟨g, by show (match ans tp e with | true => _ | false => _); rw [d]; exact k⟩
 refine ok.elim (fun ok => ?_) fun ok => ?_
 ·obtain ⟨rfl, rfl, rfl⟩ := ok
  cases d : ans tp e with
  | false => exact Rn.one (p.more (nA _ _)) aB7 (fun z => (nomatch z)) fun K k => xF d K k
  | true =>
   have g5 : 5 <= e.gas - 13 := by have : W (.jump .cont) = 5 := rfl; have : W .nil = 0 := rfl; lia
   rw [d] at ho
   have ho : ones tp e = ones tp (e.asked tp) + 1 := ho
   have p2 : Pr tp kc m e.live.length 5 (({ e with gas := e.gas - 13 } : En).asked tp) { ({ e with gas := e.gas - 13 } : En).asked tp with gas := e.gas - 13 - 5 } := Pr.pay g5 _
   refine ⟨.cont, _, p.trans p2 (nR _), fun _ => ⟨?_, ?_⟩, fun z => (nomatch z), fun z => (nomatch z), fun K k => xT d K ⟨g5, k⟩⟩
   ·show e.gas + kc * ones tp (e.asked tp) + kc <= e.gas - 13 - 5 + (13 + (5 + 0)) + kc * ones tp e
    rw [ho, Nat.mul_succ]; lia
   ·show ones tp (e.asked tp) < ones tp e
    lia
 ·have hm : kc * ones tp (e.asked tp) <= kc * ones tp e := Nat.mul_le_mul_left kc (ho ▸ nA _ _)
  cases d : ans tp e with
  | true => exact Rn.ahead p (A lp D m _ ok.1 ab.1 hk.1 h1 h2 (by show W y + kc * ones tp (e.asked tp) <= e.gas - 13; lia)) (by lia) (fun z => (nomatch z)) fun r e' k K q => xT d K (k K q)
  | false => exact Rn.ahead p (B lp D m _ ok.2 ab.2 hk.2 h1 h2 (by show W t + kc * ones tp (e.asked tp) <= e.gas - 13; lia)) (by lia) (fun z => (nomatch z)) fun r e' k K q => xF d K (k K q)
end
section
variable {tp : List Bool} {sp : List Spec} {kc m d n lb : Nat} {e e' e1 e2 : En} {r : Rs} {D : List Nat} {lp : Bool} {Q : Rs -> En -> Prop}
theorem aV6 {b : T} (B : Et tp sp kc b) (ok : OkT sp true D b) (ab : Ab m b) (hk : KB b <= kc) : ∀ e, Held e -> Dc D e -> W b + kc * ones tp e <= e.gas -> Rn tp kc m (W b) true (nn b) e (fun r e' => ∀ K : KX, K r e' -> X tp sp b K e) := fun e h1 h2 h3 => B true D m e ok ab hk h1 h2 h3
theorem cK {t : Tst} {go stop : En -> Prop} (ht : aC0 t = true) (q : go e) : tstX tp t e go stop := by
 cases t with
 | one => exact q
 | non => exact q
 | _ => exact nomatch ht
theorem cN4 {t : Tst} {b : T} (B : Et tp sp kc b) : Et tp sp kc (.whil t b) := by
 intro lp D m e ok ab hk h1 h2 h3
 have hk := zzW.mp hk
 have hw : W (.whil t b) = 21 + W b := rfl
 rw [hw] at h3 ⊢
 have g : 21 <= e.gas := by lia
 have p : Pr tp kc m e.live.length 21 e ({ e with gas := e.gas - 21 } : En) := Pr.pay g e.out
 have BB := aV6 B ok.2 ab hk.2
 cases ht : aC0 t with
 | true => exact Rl.ahead p (bW6 (c := 13) (f := id) BB hk.1 ht (ok.1 ht) (ones tp e) { e with gas := e.gas - 21 } (nR _) h1 h2 (by show W b + kc * ones tp e <= e.gas - 21; lia)) rfl (nR _) fun r e' q K k => ⟨g, ones tp e + 1, cK ht (q K k)⟩
 | false => exact Rl.ahead p (bA9 (c := 13) (f := id) BB hk.1 ht (ones tp e) { e with gas := e.gas - 21 } (nR _) h1 h2 (by show kc * ones tp e <= e.gas - 21; lia)) rfl (nA _ _) fun r e' q K k => ⟨g, ones tp e, q K k⟩
theorem dN7 {t : Tst} {b : T} (B : Et tp sp kc b) : Et tp sp kc (.dow t b) := by
 intro lp D m e ok ab hk h1 h2 h3
 have hk := zzW.mp hk
 have hw : W (.dow t b) = 8 + (W b + 13) := rfl
 rw [hw] at h3 ⊢
 have g : 8 <= e.gas := by lia
 have p : Pr tp kc m e.live.length 8 e ({ e with gas := e.gas - 8 } : En) := Pr.pay g e.out
 have BB := aV6 B ok.2 ab hk.2
 exact Rl.ahead p (bT5 (e := { e with gas := e.gas - 8 }) (c := 13) (f := id) BB hk.1 (bA9 (c := 13) (f := id) BB hk.1 ok.1 (ones tp e)) (nR _) h1 h2 (by show 13 + W b + kc * ones tp e <= e.gas - 8; lia)) rfl (by lia) fun r e' q K k => ⟨g, ones tp e + 1, q K k⟩
theorem dU0 {t : Tst} {b : T} {x1 x2 x3 : Int} (B : Et tp sp kc b) : Et tp sp kc (.for_ x1 t x2 x3 b) := by
 intro lp D m e ok ab hk h1 h2 h3
 have hk := zzW.mp hk
 have hw : W (.for_ x1 t x2 x3 b) = 26 + W b := rfl
 rw [hw] at h3 ⊢
 have g : 26 <= e.gas := by lia
 have p : Pr tp kc m e.live.length 26 e (({ e with gas := e.gas - 26 } : En).said x1) := Pr.pay g _
 have BB := aV6 B ok.2 ab hk.2
 cases ht : aC0 t with
 | true => exact Rl.ahead p (bW6 (c := 27) (f := fun o => o ++ [PV.tup [pi x2, pi x2]] ++ [PV.tup [pi x3, pi x3]]) BB hk.1 ht (ok.1 ht) (ones tp e) (({ e with gas := e.gas - 26 } : En).said x1) (nR _) h1 h2 (by show W b + kc * ones tp e <= e.gas - 26; lia)) rfl (nR _) fun r e' q K k => ⟨g, ones tp e + 1, cK ht (q K k)⟩
 | false => exact Rl.ahead p (bA9 (c := 27) (f := fun o => o ++ [PV.tup [pi x2, pi x2]] ++ [PV.tup [pi x3, pi x3]]) BB hk.1 ht (ones tp e) (({ e with gas := e.gas - 26 } : En).said x1) (nR _) h1 h2 (by show kc * ones tp e <= e.gas - 26; lia)) rfl (nA _ _) fun r e' q K k => ⟨g, ones tp e, q K k⟩
theorem dS2 {lid : Nat} {b h l : T} (B : Et tp sp kc b) (H : Et tp sp kc h) (Z : Et tp sp kc l) : Et tp sp kc (.try_ lid b h l) := by
 intro lp D m e ok ab hk h1 h2 h3
 have hk := zzW.mp hk
 have hk2 := zzW.mp hk.2
 have hw : W (.try_ lid b h l) = 32 + (W b + (W h + W l)) := rfl
 rw [hw] at h3 ⊢
 have g : 32 <= e.gas := by lia
 have p : Pr tp kc m e.live.length 32 e ({ e with gas := e.gas - 32 } : En) := Pr.pay g e.out
 refine ex2 (B lp D m { e with gas := e.gas - 32 } ok.2.1 ab.2.1 hk.1 h1 h2 (by show W b + kc * ones tp e <= e.gas - 32; lia)) fun r e1 q => ?_
 obtain ⟨p1, c1, l1, _, q⟩ := q
 have P := p.trans p1 p.len
 have end_ : (∀ (K : KX), X tp sp l (fun y => K (finR r y)) e1 -> thrX lid r (fun v => X tp sp h (fun x e => X tp sp l (fun y => K (finR x y)) e) (e1.set lid (pi v))) (X tp sp l (fun y => K (finR r y)) e1)) -> Rn tp kc m (32 + (W b + (W h + W l))) lp false e (fun r e' => ∀ K : KX, K r e' -> X tp sp (.try_ lid b h l) K e) := fun ht =>
  Rn.ahead (Pr.out (lb := e.live.length) e.out) (cJ Z (e := e) (d := 32 + W b) (Q := fun r e' => ∀ K : KX, K r e' -> X tp sp (.try_ lid b h l) K e) P (fun z => by have a := c1 z; have a1 : e.gas - 32 + kc * ones tp e1 + kc <= e1.gas + W b + kc * ones tp e := a.1; exact ⟨by lia, a.2⟩) l1 ok.2.2.2 ab.2.2.2 hk2.2 h1 h2 (by lia) fun r' e' k K q' => ⟨g, q _ (ht K (k _ q'))⟩) (by lia) id fun _ _ q => q
 cases lid with
 | zero => exact end_ fun K k => k
 | succ lid =>
  cases r with
  | thr v =>
   have hl : 1 < lid + 1 := ok.1.resolve_left (Nat.succ_ne_zero _)
   have hm : m < lid + 1 := ab.1.resolve_left (Nat.succ_ne_zero _)
   have p2 : Pr tp kc m e1.live.length 0 e1 (e1.set (lid + 1) (pi v)) := Pr.set hl hm
   refine ex2 (H lp ((lid + 1) :: D) m (e1.set (lid + 1) (pi v)) ok.2.2.1 ab.2.2.1 hk2.1 (p2.held (P.held h1)) (bV2 (P.dc h2)) (by show W h + kc * ones tp e1 <= e1.gas; have := P.gas; lia)) fun r e2 q2 => ?_
   obtain ⟨p3, c3, l3, _, q2⟩ := q2
   have P2 := (P.trans p2 P.len).trans p3 P.len
   refine Rn.ahead (Pr.out (lb := e.live.length) e.out) (cJ Z (e := e) (d := 32 + W b + W h) (Q := fun r e' => ∀ K : KX, K r e' -> X tp sp (.try_ (lid + 1) b h l) K e) (P2.more (by lia)) (fun z => by have a := c3 z; have b1 := P.gas; have a1 : e1.gas + kc * ones tp e2 + kc <= e2.gas + W h + kc * ones tp e1 := a.1; exact ⟨by lia, zzF a.2 P.one⟩) l3 ok.2.2.2 ab.2.2.2 hk2.2 h1 h2 (by lia) fun r' e' k K q' => ⟨g, q _ (q2 _ (k _ q'))⟩) (by lia) id fun _ _ q => q
  | _ => exact end_ fun K k => k
theorem dJ {w lid : Nat} {b : T} (B : Et tp sp kc b) : Et tp sp kc (.usg w lid b) := by
 intro lp D m e ok ab hk h1 h2 h3
 have hw : W (.usg w lid b) = 32 + W b := rfl
 rw [hw] at h3 ⊢
 have g : 32 <= e.gas := by lia
 have p : Pr tp kc m e.live.length 32 e ((({ e with gas := e.gas - 32 } : En).emit (pi (fUse w)) (orZ (useV w))).set lid (useV w)) := (Pr.pay g _).trans (Pr.set (lb := e.live.length) ok.1 ab.1) (nR _)
 refine ex2 (B lp D lid ((({ e with gas := e.gas - 32 } : En).emit (pi (fUse w)) (orZ (useV w))).set lid (useV w)) ok.2.2 ok.2.1 hk (p.held h1) (p.dc h2) (by show W b + kc * ones tp e <= e.gas - 32; lia)) fun r e1 q => ?_
 obtain ⟨p1, c1, l1, _, q⟩ := q
 have hv : e1.vars lid = some (useV w) := (p1.keep lid ok.1 (nR _)).trans bD1
 have P := p.trans (p1.less (Nat.le_of_lt ab.1)) (nR _)
 have po : ∀ o, Pr tp kc m e.live.length (32 + W b) e { e1 with out := o } := fun o => (P.trans (Pr.out o) (nR _)).more (by lia)
 have cc : r = .cont -> e.gas + kc * ones tp e1 + kc <= e1.gas + (32 + W b) + kc * ones tp e /\ ones tp e1 < ones tp e := fun z => by
  have a := c1 z
  have a1 : e.gas - 32 + kc * ones tp e1 + kc <= e1.gas + W b + kc * ones tp e := a.1
  exact ⟨by lia, a.2⟩
 by_cases hu : useV w = .none
 ·exact ⟨r, e1, po e1.out, cc, l1, fun z => (nomatch z), fun K k => ⟨g, q _ ⟨hv, by rw [hu]; exact k⟩⟩⟩
 ·have hu : useV w = pi 1090 := by unfold useV at *; split <;> first | rfl | exact absurd rfl hu
  exact ⟨r, e1.ev (V "over") 1090, po _, cc, l1, fun z => (nomatch z), fun K k => ⟨g, q _ ⟨hv, by rw [hu]; exact k⟩⟩⟩
theorem dM4 {lid : Nat} {wd : Bool} {src : Option Nat} {b : T} (B : Et tp sp kc b) : Et tp sp kc (.arr lid wd src b) := by
 intro lp D m e ok ab hk h1 h2 h3
 have hw : W (.arr lid wd src b) = 27 + 3 * (26 + W b) := rfl
 rw [hw] at h3 ⊢
 have g : 27 <= e.gas := by lia
 have BB := aV6 B ok.2 ab.2 hk
 have go : ∀ (e1 : En) (l : List Int), Pr tp kc m e.live.length 27 e e1 -> ones tp e1 = ones tp e -> e1.gas = e.gas - 27 -> e1.live.length = e.live.length -> l.length <= 3 -> (∀ K : KX, arX (X tp sp b) lid K l e1 -> X tp sp (.arr lid wd src b) K e) -> Rn tp kc m (27 + 3 * (26 + W b)) lp false e (fun r e' => ∀ K : KX, K r e' -> X tp sp (.arr lid wd src b) K e) := fun e1 l p o1 o2 o3 hl k => by
  have hm : l.length * (26 + W b) <= 3 * (26 + W b) := Nat.mul_le_mul_right _ hl
  exact Rl.ahead p (o3 ▸ eG7 BB ab.1 ok.1 l e1 (p.held h1) (p.dc h2) (by rw [o1, o2]; lia)) rfl (by lia) fun r e' q K k' => k K (q K k')
 have none_ : ∀ e1, Pr tp kc m e.live.length 27 e e1 -> (∀ K : KX, K (.thr 1) e1 -> X tp sp (.arr lid wd src b) K e) -> Rn tp kc m (27 + 3 * (26 + W b)) lp false e (fun r e' => ∀ K : KX, K r e' -> X tp sp (.arr lid wd src b) K e) := fun e1 p k => Rn.one (p.more (nA _ _)) aH8 (fun z => (nomatch z)) k
 cases src with
 | none =>
  refine ex1 h1 fun a ha => ?_
  have p : Pr tp kc m e.live.length 27 e ({ e with gas := e.gas - 27 } : En) := Pr.pay g e.out
  cases a with
  | none => exact none_ _ p fun K k => ⟨g, none, ha.1, ha.2, k⟩
  | some l => exact go _ l p rfl rfl rfl (ha.2 l rfl) fun K k => ⟨g, some l, ha.1, ha.2, k⟩
 | some r =>
  have p : Pr tp kc m e.live.length 27 e (({ e with gas := e.gas - 27 } : En).row r) := Pr.pay g _
  cases hr : rowL r with
  | none => exact none_ _ p fun K k => ⟨g, by show (match rowL r with | none => _ | some l => _); rw [hr]; exact k⟩
  | some l => exact go _ l p rfl rfl rfl (dJ5 r l hr) fun K k => ⟨g, by show (match rowL r with | none => _ | some l => _); rw [hr]; exact k⟩
theorem dR {lid sort idx : Nat} {wd : Bool} {b : T} (B : Et tp sp kc b) : Et tp sp kc (.pat lid wd sort idx b) := by
 intro lp D m e ok ab hk h1 h2 h3
 have hw : W (.pat lid wd sort idx b) = 64 + 3 * (19 + W b) := rfl
 rw [hw] at h3 ⊢
 have g : 64 <= e.gas := by lia
 have BB := aV6 B ok.2.2 ab.2 hk
 refine ex1 ok.2.1 fun s hs => ?_
 obtain ⟨hs, ho, hc⟩ := hs
 have xx : ∀ (K : KX) (q : match s.null with | true => K (.thr 1) (({ e with gas := e.gas - 64 } : En).emit (pi (1100 + idx)) (pi 0)) | false => match s.nullE with | true => K (.thr 1) ((({ e with gas := e.gas - 64 } : En).emit (pi (1100 + idx)) (pn idx)).ev (V "get") idx) | false => rdX (X tp sp b) lid e.live.length idx (fun x e' => (∃ cnt, e'.live[e.live.length]? = some (idx, cnt)) /\ K x (match hasD sort && s.disp with | true => e'.ev (V "over") e.live.length | false => e')) s.count 0 { (({ e with gas := e.gas - 64 } : En).emit (pi (1100 + idx)) (pn idx)).ev (V "get") idx with live := e.live ++ [(idx, 0)] }), X tp sp (.pat lid wd sort idx b) K e := fun K q => ⟨g, by show som sp[idx]? _; rw [hs]; exact ⟨ho, q⟩⟩
 cases hn : s.null with
 | true => exact Rn.one ((Pr.pay g _).more (nA _ _)) aH8 (fun z => (nomatch z)) fun K k => xx K (by rw [hn]; exact k)
 | false => cases hE : s.nullE with
  | true => exact Rn.one ((Pr.pay g _).more (nA _ _)) aH8 (fun z => (nomatch z)) fun K k => xx K (by rw [hn, hE]; exact k)
  | false =>
   have p : Pr tp kc m e.live.length 64 e { (({ e with gas := e.gas - 64 } : En).emit (pi (1100 + idx)) (pn idx)).ev (V "get") idx with live := e.live ++ [(idx, 0)] } :=
    ⟨by show e.gas + kc * ones tp e <= e.gas - 64 + 64 + kc * ones tp e; lia, nR _, id, fun _ => id, fun _ _ _ => rfl, by show e.live.length <= (e.live ++ [(idx, 0)]).length; rw [zzB]; exact nA _ _, fun i hi => zzH hi⟩
   have hm : s.count * (19 + W b) <= 3 * (19 + W b) := Nat.mul_le_mul_right _ hc
   refine ex2 (eH (lb := e.live.length) (each := e.live.length) (idx := idx) BB ab.1 ok.1 (nR _) s.count 0 { (({ e with gas := e.gas - 64 } : En).emit (pi (1100 + idx)) (pn idx)).ev (V "get") idx with live := e.live ++ [(idx, 0)] } zzO h1 h2 (by show s.count * (19 + W b) + kc * ones tp e <= e.gas - 64; lia)) fun r e1 h => ?_
   have P := (p.trans h.1 (nR _)).more (show 64 + s.count * (19 + W b) <= 64 + 3 * (19 + W b) by lia)
   have P2 : ∀ o, Pr tp kc m e.live.length (64 + 3 * (19 + W b)) e { e1 with out := o } := fun o => P.trans (Pr.out o) (nR _)
   cases hd : hasD sort && s.disp with
   | true => exact Rn.one (P2 (e1.out ++ [.tup [.str (V "over"), pn e.live.length]])) h.2.1 (fun z => (nomatch z)) fun K k => xx K (by rw [hn, hE]; exact h.2.2.2 _ ⟨h.2.2.1, by rw [hd]; exact k⟩)
   | false => exact Rn.one (P2 e1.out) h.2.1 (fun z => (nomatch z)) fun K k => xx K (by rw [hn, hE]; exact h.2.2.2 _ ⟨h.2.2.1, by rw [hd]; exact k⟩)
theorem bJ6 (t : T) : Et tp sp kc t := by
 induction t with
 | nil => exact fun lp D m e ok ab hk h1 h2 h3 => Rn.one (Pr.out e.out) aB7 (fun z => (nomatch z)) fun K k => k
 | cons s r i1 i2 => exact cW6 i1 i2
 | blk l ih => exact ih
 | ex x => exact eD x
 | jump j => exact cS3 j
 | ask y n i1 i2 => exact dI i1 i2
 | whil t b ih => exact cN4 ih
 | dow t b ih => exact dN7 ih
 | for_ e1 t e2 e3 b ih => exact dU0 ih
 | try_ lid b h l i1 i2 i3 => exact dS2 i1 i2 i3
 | usg w lid b ih => exact dJ ih
 | arr lid wide src b ih => exact dM4 ih
 | pat lid wide sort idx b ih => exact dR ih
end
section
structure BD where
 nums : List PV
 at_ : Nat
 left : Int
 event : Nat
 final : Int
 specs : List PV
 vars : List PV
 lids : List PV
noncomputable abbrev sE (x : String) (v : MV) : Str × MV := (V x, v)
noncomputable abbrev tE (x : String) (v : MV) : PV × MV := (.str (V x), v)
noncomputable def aQ2 (k : Nat) (ret : Int) : MO := .attrs [sE "mid" (i_ k), sE "owner" (i_ 64), sE "name" (.p (.str (V "M"))), sE "access" (i_ 6), sE "flags" (i_ 2), sE "ngen" (i_ 0), sE "gnames" .any, sE "gbounds" .any, sE "ret" (i_ ret), sE "params" (.p (.tup [])), sE "pnames" (.p (.tup [])), sE "pflags" (.p (.tup [])), sE "body" n_, sE "native" (i_ 0)]
noncomputable def cW0 : List PV := (List.range 16).map (fun (i : Nat) => PV.tup [pi 1, .int i]) ++ [.tup [pi 2, pi 64, .tup []], .tup [pi 2, pi 65, .tup []], .tup [pi 2, pi 66, .tup []], .tup [pi 3, pi 67, .tup []], .tup [pi 3, pi 68, .tup []], .tup [pi 4, pi 7]]
noncomputable def eF6 : Mem := [
 .attrs [sE "store" (.inst 8 (V "Store")), sE "asm" (i_ 0), sE "fns" (.obj 6), sE "vars" (.obj 3), sE "of_mid" .any, sE "diags" .any, sE "inits" .any, sE "sinits" .any, sE "consts" .any],
 .list [n_, .inst 7 (V "Fn")],
 .attrs [sE "fnid" (i_ 1), sE "mid" (i_ 0), sE "lids" (.obj 4), sE "params" .any, sE "this_kind" (i_ (-1)), sE "ret" (i_ 0), sE "body" n_, sE "up" (i_ 0), sE "sort" (i_ 0), sE "elem" (i_ (-1)), sE "at" (i_ 0)],
 .attrs [sE "kt" (.inst 9 (V "KindTable")), sE "types" .any, sE "fields_" .any, sE "methods" (.obj 12), sE "names" .any, sE "asms" .any, sE "entry" (i_ 0)],
 .attrs [sE "rows" (.obj 10), sE "index" .any, sE "depths" .any, sE "weights" .any, sE "opens" (.obj 11)],
 .pl cW0, .pl (List.replicate 22 (pi 0)),
 .list [n_, n_, .inst 13 (V "MethodDef"), .inst 14 (V "MethodDef"), .inst 15 (V "MethodDef"), .inst 16 (V "MethodDef"), .inst 17 (V "MethodDef"), .inst 18 (V "MethodDef"), .inst 19 (V "MethodDef"), .inst 20 (V "MethodDef"), .inst 21 (V "MethodDef"), .inst 22 (V "MethodDef")],
 aQ2 2 16, aQ2 3 19, aQ2 4 1, aQ2 5 7, aQ2 6 1, aQ2 7 7, aQ2 8 0, aQ2 9 0, aQ2 10 0, aQ2 11 0]
noncomputable def GB (b : BD) : Mem := .pl b.nums :: .dict [tE "numbers" (.obj 0), tE "at" (i_ b.at_), tE "left" (i_ b.left), tE "event" (i_ b.event), tE "final" (i_ b.final), tE "unit" (.inst 5 (V "Unit")), tE "kinds" (.p (.tup [pi 16, pi 17, pi 18, pi 19])), tE "specs" (.obj 2), tE "value" (i_ 20), tE "array" (i_ 21), tE "held" (i_ 1)] ::
 .pl b.specs :: .pl b.vars :: .pl b.lids :: eF6
noncomputable def varV (lid : Nat) (name : Str) (kind flags : Int) : PV := .fin (V "Var") [V "lid", V "name", V "kind", V "flags", V "owner", V "arg", V "block"] [pn lid, .str name, pi kind, pi flags, pi 1, pi (-1), pi 0]
noncomputable def HB : How where
 stop c f := c == V "" && (f == V "_law_block" || f == V "_law_draw")
 gc _ := true
 fz x := x == V "Var"
noncomputable abbrev xDr : Str := V "_law_draw"
noncomputable abbrev xBl : Str := V "_law_block"
noncomputable def bJ0 : List PV -> Bool
 | [] => true
 | .int _ :: r => bJ0 r
 | _ => false
noncomputable def allI (l : List PV) : Bool := bJ0 l && Nat.ble l.length 1000
noncomputable abbrev kAt : PV := .str (V "at")
noncomputable abbrev kNm : PV := .str (V "numbers")
noncomputable def dU9 (i : Nat) (n : MV) (K : Kt MV) (m : Mem) (c : Nat) : Prop := atD m[i]? fun es => chk (aA8 kAt es) (som (aA9 kAt es) fun a => onP a fun a => onI a fun a => onP n fun n => onI n fun k =>
 chk (aA8 kNm (dput kAt (i_ (a + 1)) es)) (som (aA9 kNm (dput kAt (i_ (a + 1)) es)) fun l => onO l fun j => atP (m.set i (.dict (dput kAt (i_ (a + 1)) es)))[j]? fun l =>
  chk (decide (0 <= a) && (decide (0 < k) && allI l)) (∀ r : Nat, (r : Int) < k -> K (i_ r) (m.set i (.dict (dput kAt (i_ (a + 1)) es))) (c + 1))))
noncomputable def Od (G : Orc) : Orc := fun x f args K m c => match f == xDr with
 | false => G x f args K m c
 | true => match args with
  | [.obj i, n] => chk (x == V "") (dU9 i n K m c)
  | _ => False
noncomputable def aG0 (b : BD) (n : Int) (k : Nat -> BD -> Prop) : Prop := chk (allI b.nums) (∀ r : Nat, (r : Int) < n -> k r { b with at_ := b.at_ + 1 })
variable (P : PI) (b : BD) (G : Orc) (K : Kt MV) (c : Nat)
noncomputable abbrev runB (f : String) (args : List MV) (K : Kt MV) (m : Mem) (c : Nat) : Prop := run P HB (Od G) 3 (V f) args K m c
theorem dM2 : runB P G "_law_say" [.obj 1] K (GB b) c = K (.p (aH7 (aA3 7 ((b.event : Int) + 1)))) (GB { b with event := b.event + 1 }) (c + 1) := by kernel_rfl
theorem dB3 (lid : Nat) (kind : Int) : runB P G "_law_shown" [.obj 1, .p (pn lid), .p (pi kind)] K (GB b) c = K (.p (aH7 (eAsg kind (aA3 kind ((b.event : Int) + 1)) (eLoc kind lid)))) (GB { b with event := b.event + 1 }) (c + 1) := by kernel_rfl
noncomputable def BD.var (b : BD) (name : String) (kind : Int) : BD := { b with vars := b.vars ++ [varV b.vars.length (V name) kind 0], lids := b.lids ++ [pn b.vars.length] }
end
section
noncomputable def HN : How where
 stop c f := c == V "" && (f == V "_law_block" || f == V "_law_draw" || f == V "_law_pattern" || f == V "_law_array" || f == V "_law_using" || f == V "_law_body" || f == V "_law_try" || f == V "_law_say")
 gc f := !(f == V "_law_joined" || f == V "_law_asked" || f == V "_law_seen")
 fz x := x == V "Var"
variable (P : PI) (b : BD) (G : Orc) (K : Kt MV) (c : Nat)
noncomputable abbrev runN (f : String) (args : List MV) (K : Kt MV) (m : Mem) (c : Nat) : Prop := run P HN (Od G) 4 (V f) args K m c
noncomputable abbrev cal (f : String) (args : List MV) (K : Kt MV) (m : Mem) (c : Nat) : Prop := G (V "") (V f) args K m c
noncomputable abbrev lvB (K : Kt MV) : Kt MV := fun v => bJ9 23 v K
noncomputable def jnK (K : Kt MV) : Kt MV := fun v => tupB v fun t => tupV [i_ 3, t, i_ 0] K
noncomputable def BD.evt (b : BD) : BD := { b with event := b.event + 1 }
noncomputable def numE (b : BD) : Int := (b.event : Int) + 1
noncomputable def sayK (b : BD) (K : Kt MV) (c : Nat) : Prop := cal G "_law_say" [.obj 1] (lvB K) (GB b) c
noncomputable def bD3 (s : PV) : PV := .tup [pi 4, eAsk, s, .none]
noncomputable def cP8 (b : BD) (c : Nat) (k : PV -> Bool -> BD -> Nat -> Prop) : Prop := aG0 b 4 fun r b => br (decide ((r : Int) = 3)) (k (aJ6 1 1) true b (c + 1)) (br (decide ((r : Int) = 2)) (k (aJ6 1 0) false b (c + 1)) (k eAsk false b (c + 1)))
noncomputable def nd0 (depth : Int) (b : BD) (c : Nat) : Prop := aG0 b 6 fun r b => cal G "_law_pattern" [.obj 1, i_ depth, i_ r] (lvB K) (GB b) (c + 1)
noncomputable def nd3 (depth : Int) (b : BD) (c : Nat) : Prop := cP8 b c fun t e b c => cal G "_law_body" [.obj 1, i_ depth, b_ e] (jnK fun v => tupV [i_ 5, .p t, v] (lvB K)) (GB b) c
noncomputable def nd4 (depth : Int) (b : BD) (c : Nat) : Prop := cal G "_law_block" [.obj 1, i_ (depth + 1), i_ 1] (jnK fun v => Od G (V "") xDr [.obj 1, i_ 3] fun r => cmpE r (i_ 2) fun x => truK x fun z m c => br z (tupV [i_ 6, v, .p (aJ6 1 0)] (lvB K) m c) (tupV [i_ 6, v, .p eAsk] (lvB K) m c)) (GB b) c
noncomputable def nd6 (b : BD) (c : Nat) : Prop := aG0 b 2 fun r b => br (decide ((r : Int) = 0)) (K (.p (.tup [pi 12, aA3 7 (numE b)])) (GB b.evt) (c + 1 + 1)) (K (.p (bD3 (.tup [pi 12, aA3 7 (numE b)]))) (GB b.evt) (c + 1 + 1))
noncomputable def nd7 (b : BD) (c : Nat) : Prop := aG0 b 2 fun r b => br (decide ((r : Int) = 0)) (K (.p (sJ .brk)) (GB b) (c + 1)) (K (.p (bD3 (sJ .brk))) (GB b) (c + 1))
noncomputable def nd8 (b : BD) (c : Nat) : Prop := K (.p (bD3 (sJ .cont))) (GB b) c
noncomputable def nd10 (b : BD) (c : Nat) : Prop := aG0 b 3 fun r b => K (.p (bD3 (.tup [pi 13, aA3 12 (1070 + r)]))) (GB b) (c + 1)
noncomputable def nd12 (b : BD) (c : Nat) : Prop := aG0 b 4 fun r b => K (.p (sX (.hold r))) (GB b) (c + 1)
noncomputable def locN (depth loop what : Int) : Loc := [(V "st", .obj 1), (V "depth", i_ depth), (V "loop", i_ loop), (V "what", i_ what)]
noncomputable def ndT (k : Nat) (what depth loop : Int) (K : Kt MV) (m : Mem) (c : Nat) : Prop := evSs (ext P) HN.fz (inl (ext P) HN (Od G) 4) ((aL1 (topS 215)).drop k) (aO4 (topS 215)) (locN depth loop what) (aR8 true 23 K) m c
theorem n_6 (depth loop : Int) : ndT P G 3 6 depth loop K (GB b) c = br (decide (b.final = 0)) (nd6 K b c) (sayK G b K c) := by kernel_rfl
theorem n_11 (depth loop : Int) : ndT P G 3 11 depth loop K (GB b) c = sayK G b K c := by kernel_rfl
theorem n_0 (depth loop : Int) : ndT P G 3 0 depth loop K (GB b) c = nd0 G K depth b c := by kernel_rfl
theorem n_3 (depth loop : Int) : ndT P G 3 3 depth loop K (GB b) c = nd3 G K depth b c := by kernel_rfl
theorem n_4 (depth loop : Int) : ndT P G 3 4 depth loop K (GB b) c = nd4 G K depth b c := by kernel_rfl
theorem n_7 (depth loop : Int) : ndT P G 3 7 depth loop K (GB b) c = br (decide (0 < loop)) (nd7 K b c) (sayK G b K c) := by kernel_rfl
theorem n_8 (depth loop : Int) : ndT P G 3 8 depth loop K (GB b) c = br (decide (0 < loop)) (nd8 K b c) (sayK G b K c) := by kernel_rfl
theorem n_10 (depth loop : Int) : ndT P G 3 10 depth loop K (GB b) c = nd10 K b c := by kernel_rfl
theorem n_12 (depth loop : Int) : ndT P G 3 12 depth loop K (GB b) c = nd12 K b c := by kernel_rfl
noncomputable def nd5g (depth : Int) (e : Bool) (t : PV) (b : BD) (c : Nat) : Prop := cal G "_law_body" [.obj 1, i_ depth, b_ e] (jnK fun v => cal G "_law_say" [.obj 1] fun s1 => tupV [s1] fun t1 => cal G "_law_say" [.obj 1] fun s2 => cal G "_law_say" [.obj 1] fun s3 => tupV [s2, s3] fun t2 => tupV [i_ 7, t1, .p t, t2, v, i_ 0] (lvB K)) (GB b) c
noncomputable def nd5 (depth : Int) (b : BD) (c : Nat) : Prop := cP8 b c fun t e b c => br e (aG0 b 2 fun r b => br (decide ((r : Int) = 1)) (nd5g G K depth e .none b (c + 1)) (nd5g G K depth e t b (c + 1))) (nd5g G K depth e t b c)
noncomputable def nd9 (depth loop : Int) (b : BD) (c : Nat) : Prop := cal G "_law_block" [.obj 1, i_ (depth + 1), i_ loop] (jnK fun y => Od G (V "") xDr [.obj 1, i_ 2] fun r => cmpE r (i_ 1) fun x => truK x fun z m c => br z (cal G "_law_block" [.obj 1, i_ (depth + 1), i_ loop] (jnK fun n => tupV [i_ 4, .p eAsk, y, n] (lvB K)) m c) (tupV [i_ 4, .p eAsk, y, n_] (lvB K) m c)) (GB b) c
theorem n_1 (depth loop : Int) : ndT P G 3 1 depth loop K (GB b) c = cal G "_law_array" [.obj 1, i_ depth] (lvB K) (GB b) c := by kernel_rfl
theorem n_2 (depth loop : Int) : ndT P G 3 2 depth loop K (GB b) c = cal G "_law_using" [.obj 1, i_ depth, i_ loop] (lvB K) (GB b) c := by kernel_rfl
theorem n_5 (depth loop : Int) : ndT P G 3 5 depth loop K (GB b) c = nd5 G K depth b c := by kernel_rfl
theorem n_9 (depth loop : Int) : ndT P G 3 9 depth loop K (GB b) c = nd9 G K depth loop b c := by kernel_rfl
theorem n_13 (depth loop : Int) : ndT P G 3 13 depth loop K (GB b) c = cal G "_law_try" [.obj 1, i_ (depth + 1), i_ loop] (lvB K) (GB b) c := by kernel_rfl
theorem cJ6 (depth loop : Int) : runN P G "_law_node" [.obj 1, i_ depth, i_ loop] K (GB b) c = aG0 { b with left := b.left - 1 } 14 fun r b => br (decide (b.left < 0)) (ndT P G 3 11 depth loop K (GB b) (c + 1 + 1)) (br (decide (2 < depth)) (br (decide ((r : Int) < 6)) (ndT P G 3 11 depth loop K (GB b) (c + 1 + 1)) (br (decide ((r : Int) = 9)) (ndT P G 3 11 depth loop K (GB b) (c + 1 + 1)) (br (decide ((r : Int) = 13)) (ndT P G 3 11 depth loop K (GB b) (c + 1 + 1)) (ndT P G 3 r depth loop K (GB b) (c + 1 + 1))))) (ndT P G 3 r depth loop K (GB b) (c + 1 + 1))) := by kernel_rfl
end
section
noncomputable def HK : How where
 stop c f := c == V "" && (f == V "_law_block" || f == V "_law_draw" || f == V "_law_node")
 gc f := !(f == V "_law_joined" || f == V "_law_asked" || f == V "_law_seen")
 fz x := x == V "Var"
noncomputable def HT : How where
 stop c f := c == V "" && (f == V "_law_block" || f == V "_law_draw" || f == V "new_var" || f == V "_law_shown")
 gc f := !(f == V "_law_joined" || f == V "_law_asked" || f == V "_law_seen")
 fz x := x == V "Var"
variable (P : PI) (b : BD) (G : Orc) (K : Kt MV) (c : Nat)
noncomputable abbrev runK (f : String) (args : List MV) (K : Kt MV) (m : Mem) (c : Nat) : Prop := run P HK (Od G) 4 (V f) args K m c
noncomputable abbrev runT (f : String) (args : List MV) (K : Kt MV) (m : Mem) (c : Nat) : Prop := run P HT (Od G) 4 (V f) args K m c
noncomputable def bkF : MV -> Loc -> PT (Flw × Loc) := forB (ext P) HK.fz (inl (ext P) HK (Od G) 4) (atS (aL1 (topS 212)) 1) (aO4 (topS 212))
noncomputable def locK (depth loop : Int) (r : Loc) : Loc := (V "st", .obj 1) :: (V "depth", i_ depth) :: (V "loop", i_ loop) :: (V "out", .obj 23) :: r
noncomputable def bkK (K : Kt MV) : Kt (Flw × Loc) := fun x m c => match x.1 with
 | .next => som (x.2.lookup (V "out")) fun v => lvB K v m c
 | .brk => False
 | .cont => False
 | .ret v => lvB K v m c
theorem cL9 (depth loop : Int) : runK P G "_law_block" [.obj 1, i_ depth, i_ loop] K (GB b) c = chk (allI b.nums) (∀ r : Nat, (r : Int) < 4 -> aX8 "range" (i_ r) (fun v => forV (bkF P G) v (locK depth loop []) (bkK K)) (GB { b with at_ := b.at_ + 1 } ++ [.pl []]) (c + 1)) := by kernel_rfl
noncomputable def nodK (depth loop : Int) (v : MV) (K : Kt (Flw × Loc)) (m : Mem) (c : Nat) : Prop := getM (ext P) (.obj 23) (V "append") (fun g => cal G "_law_node" [.obj 1, i_ depth, i_ loop] fun x => runC (ext P) HK.fz (inl (ext P) HK (Od G) 4) g [x] fun _ => K (.next, locK depth loop [(V "turn", v)])) m c
theorem cU8 (depth loop : Int) (v : MV) (K : Kt (Flw × Loc)) (m : Mem) : bkF P G v (locK depth loop []) K m c = nodK P G depth loop v K m c := by kernel_rfl
theorem cX (depth loop : Int) (v u : MV) (K : Kt (Flw × Loc)) (m : Mem) : bkF P G v (locK depth loop [(V "turn", u)]) K m c = nodK P G depth loop v K m c := by kernel_rfl
theorem cY2 (depth : Int) : runK P G "_law_body" [.obj 1, i_ depth, b_ false] K (GB b) c = cal G "_law_block" [.obj 1, i_ (depth + 1), i_ 1] (lvB K) (GB b) c := by kernel_rfl
noncomputable def dT7 (depth : Int) (v : MV) (K : Kt MV) (m : Mem) (c : Nat) : Prop := evSs (ext P) HK.fz (inl (ext P) HK (Od G) 4) ((aL1 (topS 218)).drop 1) (aO4 (topS 218)) [(V "st", .obj 1), (V "depth", i_ depth), (V "endless", b_ true), (V "out", v)] (aR8 true 23 K) m c
theorem cZ7 (depth : Int) : runK P G "_law_body" [.obj 1, i_ depth, b_ true] K (GB b) c = cal G "_law_block" [.obj 1, i_ (depth + 1), i_ 2] (fun v => dT7 P G depth v K) (GB b) c := by kernel_rfl
noncomputable def eltF (b : BD) (c : Nat) (d : Int) (k : Nat -> Bool -> Kt MV) : Prop := aG0 b 2 fun r b =>
 br (decide ((r : Int) = 0))
  (cal G "_law_block" [.obj 1, i_ d, i_ 1] (fun v => aF0 .Add (.obj 23) v (jnK (k b.vars.length false))) (GB (b.var "v" 7).evt ++ [.pl [aH7 (eAsg 7 (aA3 7 (numE b)) (eLoc 7 b.vars.length))]]) (c + 1 + 1 + 1 + 1 + 1))
  (cal G "_law_block" [.obj 1, i_ d, i_ 1] (fun v => aF0 .Add (.obj 23) v (jnK (k b.vars.length true))) (GB (b.var "v" 9).evt ++ [.pl [aH7 (eAsg 9 (aA3 9 (numE b)) (eLoc 9 b.vars.length))]]) (c + 1 + 1 + 1 + 1 + 1))
noncomputable def arrK (e : PV) (lid : Nat) (w : Bool) : Kt MV := fun t => tupV [i_ 8, .p (pn lid), .p e, t, .p (.tup [pi 1, aF4 w aH9]), i_ 0] (lvB K)
theorem dA5 (depth : Int) : runK P G "_law_array" [.obj 1, i_ depth] K (GB b) c = aG0 b 2 fun r b => br (decide ((r : Int) = 0)) (aG0 b 4 fun r b => eltF G b (c + 1 + 1) (depth + 1) (arrK K (aA3 21 (1080 + r)))) (eltF G b (c + 1) (depth + 1) (arrK K (eLoc 21 1))) := by kernel_rfl
noncomputable def useK (u : Nat) (e : Int) (lid : Nat) : Kt MV := fun t => tupV [i_ 15, .p (pn lid), .p (aA3 (kUse u) e), .p (aG9 0 (eLoc (kUse u) lid) (kUse u) (mUse u) (vUse u)), t] (lvB K)
theorem dB0 (depth loop : Int) : runK P G "_law_using" [.obj 1, i_ depth, i_ loop] K (GB b) c = aG0 b 4 fun r b => br (decide ((r : Int) < 2))
  (cal G "_law_block" [.obj 1, i_ (depth + 1), i_ loop] (jnK (useK K 0 (1090 + r) b.vars.length)) (GB (b.var "u" 18)) (c + 1 + 1 + 1))
  (cal G "_law_block" [.obj 1, i_ (depth + 1), i_ loop] (jnK (useK K 2 1090 b.vars.length)) (GB (b.var "u" 20)) (c + 1 + 1 + 1)) := by kernel_rfl
end
section
variable (P : PI) (b : BD) (G : Orc) (K : Kt MV) (c : Nat)
noncomputable def patK (K : Kt MV) (s idx lid : Nat) (w : Bool) : Kt MV := fun t => tupV [i_ 8, .p (pn lid), .p (aA3 17 (1100 + idx)), t, .p (.tup [pi 2, mRef 17 (two (isC s) 2 3), mRef (aA7 s) (two (isC s) 4 6), mRef (aA7 s) (two (isC s) 5 7), aI8 s, pi (aA7 s), aF4 w aH9]), i_ 0] (lvB K)
noncomputable def BD.spec (b : BD) (x : PV) : BD := { b with specs := b.specs ++ [x] }
noncomputable def patF (s : Nat) (fourth : Nat -> PV) (depth : Int) : Prop := aG0 b 4 fun n b => aG0 b 6 fun u b =>
 br (decide ((u : Int) = 4)) (eltF G (b.spec (.tup [pn n, .bool (decide ((u : Int) = 5)), .bool (isC s), fourth u])) (c + 1 + 1 + 1) (depth + 1) (patK K s b.specs.length))
  (eltF G (b.spec (.tup [pn n, .bool (decide ((u : Int) = 5)), .bool (decide ((u : Int) = 4)), fourth u])) (c + 1 + 1 + 1) (depth + 1) (patK K s b.specs.length))
theorem dH9 (depth : Int) : runK P G "_law_pattern" [.obj 1, i_ depth, i_ 0] K (GB b) c = patF b G K c 0 (fun _ => .bool true) depth := by kernel_rfl
theorem dH1 (depth : Int) : runK P G "_law_pattern" [.obj 1, i_ depth, i_ 1] K (GB b) c = patF b G K c 1 (fun u => .bool (!decide ((u : Int) = 3))) depth := by kernel_rfl
theorem dC1 (depth : Int) : runK P G "_law_pattern" [.obj 1, i_ depth, i_ 2] K (GB b) c = patF b G K c 2 (fun _ => .bool true) depth := by kernel_rfl
theorem dD9 (depth : Int) : runK P G "_law_pattern" [.obj 1, i_ depth, i_ 3] K (GB b) c = patF b G K c 3 (fun _ => .bool true) depth := by kernel_rfl
theorem dJ1 (depth : Int) : runK P G "_law_pattern" [.obj 1, i_ depth, i_ 4] K (GB b) c = patF b G K c 4 (fun _ => .bool true) depth := by kernel_rfl
theorem dQ2 (depth : Int) : runK P G "_law_pattern" [.obj 1, i_ depth, i_ 5] K (GB b) c = patF b G K c 5 (fun _ => .bool true) depth := by kernel_rfl
noncomputable def tryT (r d loop : Int) (K : Kt MV) (m : Mem) (c : Nat) : Prop := evSs (ext P) HT.fz (inl (ext P) HT (Od G) 4) ((aL1 (topS 216)).drop 1) (aO4 (topS 216)) [(V "st", .obj 1), (V "depth", i_ d), (V "loop", i_ loop), (V "sort", i_ r)] (aR8 true 23 K) m c
theorem dV2 (d loop : Int) : runT P G "_law_try" [.obj 1, i_ d, i_ loop] K (GB b) c = aG0 b 3 fun r b => tryT P G r d loop K (GB b) (c + 1) := by kernel_rfl
noncomputable def hdlK (d loop : Int) (k : MV -> Mem -> Nat -> Prop) : Mem -> Nat -> Prop := getI (.obj 1) (.p (.str (V "unit"))) fun u => cal G "new_var" [u, i_ 1, .p (.str (V "e")), i_ 12, i_ 0] fun lid => cal G "_law_shown" [.obj 1, lid, i_ 12] fun s => newList [s] fun a => cal G "_law_block" [.obj 1, i_ d, i_ loop] fun bl => aF0 .Add a bl (jnK fun h => tupV [i_ (-1), lid, n_, h] fun row => tupV [row] k)
noncomputable def finK (d : Int) (k : MV -> Mem -> Nat -> Prop) : Mem -> Nat -> Prop := getI (.obj 1) (.p (.str (V "final"))) fun u => iop .Add u (i_ 1) fun w => setI (.obj 1) (.p (.str (V "final"))) w fun _ => cal G "_law_block" [.obj 1, i_ d, i_ 0] (jnK fun l => getI (.obj 1) (.p (.str (V "final"))) fun u => iop .Sub u (i_ 1) fun w => setI (.obj 1) (.p (.str (V "final"))) w fun _ => k l)
theorem t_0 (d loop : Int) : tryT P G 0 d loop K (GB b) c = cal G "_law_block" [.obj 1, i_ d, i_ loop] (jnK fun x => hdlK G d loop fun rows => tupV [i_ 14, x, rows, n_] (lvB K)) (GB b) c := by kernel_rfl
theorem t_1 (d loop : Int) : tryT P G 1 d loop K (GB b) c = cal G "_law_block" [.obj 1, i_ d, i_ loop] (jnK fun x => finK G d fun l => tupV [i_ 14, x, .p (.tup []), l] (lvB K)) (GB b) c := by kernel_rfl
theorem t_2 (d loop : Int) : tryT P G 2 d loop K (GB b) c = cal G "_law_block" [.obj 1, i_ d, i_ loop] (jnK fun x => hdlK G d loop fun rows => finK G d fun l => tupV [i_ 14, x, rows, l] (lvB K)) (GB b) c := by kernel_rfl
end
noncomputable def Nn : T -> Nat
 | .cons s r => Nn s + Nn r
 | .blk l => Nn l
 | .ask y n => 1 + (Nn y + Nn n)
 | .whil _ b => 1 + Nn b
 | .dow _ b => 1 + Nn b
 | .for_ _ _ _ _ b => 1 + Nn b
 | .try_ _ b h l => 1 + (Nn b + (Nn h + Nn l))
 | .usg _ _ b => 1 + Nn b
 | .arr _ _ _ b => 1 + Nn b
 | .pat _ _ _ _ b => 1 + Nn b
 | _ => 0
noncomputable def dl : T -> Nat
 | .cons s r => Nat.max (dl s) (dl r)
 | .blk l => dl l + 5
 | .ask y n => Nat.max (dl y) (dl n) + 11
 | .whil _ b => dl b + 13
 | .dow _ b => dl b + 13
 | .for_ _ _ _ _ b => dl b + 13
 | .try_ _ b h l => Nat.max (dl b) (Nat.max (dl h) (dl l)) + 9
 | .usg _ _ b => dl b + 17
 | .arr _ _ _ b => dl b + 22
 | .pat _ _ _ _ b => dl b + 32
 | .nil => 0
 | .ex _ => 8
 | .jump _ => 8
noncomputable def Vd (vs : List PV) : T -> Prop
 | .cons s r => Vd vs s /\ Vd vs r
 | .blk l => Vd vs l
 | .ask y n => Vd vs y /\ Vd vs n
 | .whil t b => t ≠ .non /\ Vd vs b
 | .dow _ b => Vd vs b
 | .for_ _ _ _ _ b => Vd vs b
 | .try_ lid b h l => (lid = 0 -> h = .nil) /\ Vd vs b /\ Vd vs h /\ Vd vs l
 | .usg w lid b => (∃ nm, vs[lid]? = some (varV lid nm (kUse w) 0)) /\ Vd vs b
 | .arr lid w _ b => (∃ nm, vs[lid]? = some (varV lid nm (kW w) 0)) /\ Vd vs b
 | .pat lid w _ _ b => (∃ nm, vs[lid]? = some (varV lid nm (kW w) 0)) /\ Vd vs b
 | _ => True
structure Fs where
 sp : List Spec
 vs : List PV
structure Lt (b : BD) (sp : List Spec) (F : Fs) : Prop where
 pre : sp <+: F.sp
 vpre : b.vars <+: F.vs
 ev : b.event < 1000
structure Sp (b : BD) (sp : List Spec) (c : Nat) (b' : BD) (sp' : List Spec) (c' : Nat) (u k : Nat) : Prop where
 nums : b'.nums = b.nums
 pre : sp <+: sp'
 spE : b.specs = sp.map aC1 -> b'.specs = sp'.map aC1
 cnt : (∀ s ∈ sp, s.count <= 3) -> ∀ s ∈ sp', s.count <= 3
 vars : b.vars <+: b'.vars
 left : b'.left <= b.left
 pot : b'.left.toNat + u = b.left.toNat
 lo : c <= c'
 hi : c' <= c + k + 60 * u
 evm : b.event <= b'.event
 ev : b'.event + c <= b.event + c'
 len : sp'.length + c <= sp.length + c'
 vb : b'.vars.length + c <= b.vars.length + c'
structure Bi (b : BD) (sp : List Spec) : Prop where
 nums : allI b.nums = true
 spE : b.specs = sp.map aC1
 cnt : ∀ s ∈ sp, s.count <= 3
 left : b.left <= 12
 vars : 2 <= b.vars.length
structure TrF (F : Fs) (lp : Bool) (t : T) : Prop where
 ok : Ok t
 okT : ∀ D, OkT F.sp lp D t
 vk : ∀ n, F.vs.length <= n + 1 -> Vk n t
 vd : Vd F.vs t
noncomputable def gw : Nat -> Nat
 | 0 => 12
 | 1 => 187
 | 2 => 561
 | _ => 1683
structure Tr (k : Nat) (lp : Bool) (b b' : BD) (sp' : List Spec) (w u : Nat) (t : T) : Prop where
 ab : ∀ m, m < b.vars.length -> Ab m t
 w : W t <= w
 nn : Nn t <= u
 kb : KB t <= 6800
 dep : dl t <= 37 * k + 19
 fin : ∀ F, Lt b' sp' F -> TrF F lp t
section
variable {b b' b'' : BD} {sp sp' sp'' : List Spec} {c c' c'' u u' k k' n : Nat} {F : Fs}
theorem Sp.trans (h : Sp b sp c b' sp' c' u k) (h' : Sp b' sp' c' b'' sp'' c'' u' k') : Sp b sp c b'' sp'' c'' (u + u') (k + k') :=
 ⟨h'.nums.trans h.nums, h.pre.trans h'.pre, fun q => h'.spE (h.spE q), fun q => h'.cnt (h.cnt q), h.vars.trans h'.vars, Int.le_trans h'.left h.left, by have := h.pot; have := h'.pot; lia, nT h.lo h'.lo, by have := h.hi; have := h'.hi; lia, nT h.evm h'.evm, by have := h.ev; have := h'.ev; lia, by have := h.len; have := h'.len; lia, by have := h.vb; have := h'.vb; lia⟩
theorem Sp.more (h : Sp b sp c b' sp' c' u k) (q : k <= k') : Sp b sp c b' sp' c' u k' := ⟨h.nums, h.pre, h.spE, h.cnt, h.vars, h.left, h.pot, h.lo, nT h.hi (zzS (zzD q _) _), h.evm, h.ev, h.len, h.vb⟩
theorem Sp.ahead (h : Sp b sp c b' sp' c' 0 k) (h' : Sp b' sp' c' b'' sp'' c'' u k') (q : k + k' <= n) : Sp b sp c b'' sp'' c'' u n := by
 have := h.trans h'
 rw [Nat.zero_add] at this
 exact this.more q
theorem Sp.bi (h : Sp b sp c b' sp' c' u k) (q : Bi b sp) : Bi b' sp' := ⟨h.nums ▸ q.nums, h.spE q.spE, h.cnt q.cnt, Int.le_trans h.left q.left, nT q.vars h.vars.length_le⟩
theorem Sp.lt (h : Sp b sp c b' sp' c' u k) (q : Lt b' sp' F) : Lt b sp F := ⟨h.pre.trans q.pre, h.vars.trans q.vpre, zzG h.evm q.ev⟩
theorem Sp.vlen (h : Sp b sp c b' sp' c' u k) : b.vars.length <= b'.vars.length := h.vars.length_le
theorem Sp.cost {a : Nat} {f : Int} (b : BD) (c n : Nat) : Sp b sp c { b with at_ := a, final := f } sp (c + n) 0 n :=
 ⟨rfl, zzR, id, id, zzR, Int.le_refl _, rfl, nA _ _, nR _, nR _, zzD (nA _ _) _, zzD (nA _ _) _, zzD (nA _ _) _⟩
theorem Sp.draw (b : BD) (c : Nat) : Sp b sp c { b with at_ := b.at_ + 1 } sp (c + 1) 0 1 := Sp.cost b c 1
theorem Sp.evt (b : BD) (c : Nat) : Sp b sp c b.evt sp (c + 1) 0 1 :=
 ⟨rfl, zzR, id, id, zzR, Int.le_refl _, rfl, nA _ _, nR _, nA _ _, by show b.event + 1 + c <= b.event + (c + 1); lia, zzD (nA _ _) _, zzD (nA _ _) _⟩
theorem Sp.var (b : BD) (c : Nat) (nm : String) (kd : Int) : Sp b sp c (b.var nm kd) sp (c + 2) 0 2 :=
 ⟨rfl, zzR, id, id, List.prefix_append _ _, Int.le_refl _, rfl, nA _ _, nR _, nR _, zzD (nA _ _) _, zzD (nA _ _) _, by show (b.vars ++ [_]).length + c <= b.vars.length + (c + 2); rw [zzB]; show b.vars.length + 1 + c <= _; lia⟩
theorem Sp.spec (b : BD) (c : Nat) {s : Spec} (h : s.count <= 3) : Sp b sp c (b.spec (aC1 s)) (sp ++ [s]) (c + 1) 0 1 :=
 ⟨rfl, List.prefix_append _ _, fun q => by show b.specs ++ [aC1 s] = _; rw [q, List.map_append]; rfl, fun q x hx => (zzP.mp hx).elim (q x) fun z => zzJ.mp z ▸ h, zzR, Int.le_refl _, rfl, nA _ _, nR _, nR _, zzD (nA _ _) _, by rw [zzB]; show sp.length + 1 + c <= sp.length + (c + 1); lia, zzD (nA _ _) _⟩
theorem Sp.none (b : BD) (c : Nat) (h : b.left - 1 < 0) : Sp b sp c { b with left := b.left - 1 } sp (c + 1) 0 1 :=
 ⟨rfl, zzR, id, id, zzR, by show b.left - 1 <= b.left; lia, by show (b.left - 1).toNat + 0 = b.left.toNat; lia, nA _ _, nR _, nR _, zzD (nA _ _) _, zzD (nA _ _) _, zzD (nA _ _) _⟩
theorem Sp.refl (b : BD) (c : Nat) : Sp b sp c b sp c 0 0 := ⟨rfl, zzR, id, id, zzR, Int.le_refl _, rfl, nR _, nR _, nR _, nR _, nR _, nR _⟩
theorem dV8 (t : T) : nl t <= 4 * Nn t := by
 induction t with
 | cons s r h1 h2 => show nl s + nl r <= 4 * (Nn s + Nn r); lia
 | blk l h => exact h
 | ask y n h1 h2 => show 2 + nl y + nl n <= 4 * (1 + (Nn y + Nn n)); lia
 | whil c b h => show 3 + nl b <= 4 * (1 + Nn b); lia
 | dow c b h => show 3 + nl b <= 4 * (1 + Nn b); lia
 | for_ a b c d e h => show 4 + nl e <= 4 * (1 + Nn e); lia
 | try_ a b h l h1 h2 h3 => show nl b + nl h + nl l <= 4 * (1 + (Nn b + (Nn h + Nn l))); lia
 | usg a b c h => show nl c + 1 <= 4 * (1 + Nn c); lia
 | arr a b c d h => show 4 + nl d <= 4 * (1 + Nn d); lia
 | pat a b c d e h => show 4 + nl e <= 4 * (1 + Nn e); lia
 | _ => exact zzN _
theorem bI6 (t : T) : ln t <= W t := by
 induction t with
 | cons s r h1 h2 => exact Nat.add_le_add h1 h2
 | blk l h => exact h
 | ask y n h1 h2 => show 1 + (ln y + (1 + 1) + (ln n + 1)) <= 13 + (W y + W n); lia
 | whil c b h => show 1 + 1 + (ln b + (1 + (1 + 1))) <= 21 + W b; lia
 | dow c b h => show 1 + (ln b + (1 + (1 + 1))) <= 8 + (W b + 13); lia
 | for_ a b c d e h => show 1 + (1 + 1) + (ln e + (1 + (1 + (1 + 1)) + (1 + 1))) <= 26 + W e; lia
 | try_ a b h l h1 h2 h3 => show 1 + ln b + ln h + ln l <= 32 + (W b + (W h + W l)); lia
 | usg a b c h => show 1 + 1 + ln c <= 32 + W c; lia
 | arr a b c d h => show 1 + (1 + (1 + (1 + 1))) + (ln d + (1 + (1 + (1 + (1 + 1))))) <= 27 + 3 * (26 + W d); lia
 | pat a b c d e h => show 1 + (1 + (1 + 1) + (ln e + (1 + (1 + 1)))) <= 64 + 3 * (19 + W e); lia
 | nil => exact nR _
 | ex e => show 1 <= 6; decide
 | jump j => show 1 <= 5; decide
theorem max5 {a b c d : Nat} (h : 5 * a <= c) (q : 5 * b <= d) : 5 * Nat.max a b <= Nat.max c d := by
 show 5 * max a b <= max c d
 rcases Nat.le_total a b with z | z
 ·rw [Nat.max_eq_right z]; exact nT q (Nat.le_max_right _ _)
 ·rw [Nat.max_eq_left z]; exact nT h (Nat.le_max_left _ _)
theorem dG3 (t : T) : 5 * dep t <= dl t := by
 induction t with
 | cons s r i1 i2 => exact max5 i1 i2
 | ask s r i1 i2 => have := max5 i1 i2; show 5 * (_ + 1) <= _ + 11; lia
 | try_ lid b h l i1 i2 i3 => have := max5 i1 (max5 i2 i3); show 5 * (_ + 1) <= _ + 9; lia
 | nil => exact nR _
 | ex x => exact (by decide : 5 <= 8)
 | jump x => exact (by decide : 5 <= 8)
 | blk l ih => show 5 * (dep l + 1) <= dl l + 5; lia
 | whil t b ih => show 5 * (dep b + 1) <= dl b + 13; lia
 | dow t b ih => show 5 * (dep b + 1) <= dl b + 13; lia
 | for_ a t c d b ih => show 5 * (dep b + 2) <= dl b + 13; lia
 | usg w lid b ih => show 5 * (dep b + 1) <= dl b + 17; lia
 | arr lid w s b ih => show 5 * (dep b + 1) <= dl b + 22; lia
 | pat lid w s i b ih => show 5 * (dep b + 1) <= dl b + 32; lia
end
noncomputable def OfC (K : Kt MV) (b : BD) (tl : Mem) (c : Nat) : Kt MV := fun v m1 c1 => ∃ c2, (c <= c2 /\ c1 <= c2) /\ ((23 <= m1.length /\ (∃ p, v = .p p) /\ K v (putB (List.range 23) (List.range 23) m1 (GB b ++ tl)) c2) ∨ ∃ l m2, m1 = m2 ++ [.pl l] /\ m2.length = 23 /\ v = .obj 23 /\ K (.obj (GB b ++ tl).length) (putB (List.range 23) (List.range 23) m2 (GB b ++ tl) ++ [.pl l]) c2)
section
variable {G : Orc} {x f : Str} {args : List MV} {K : Kt MV} {b b' : BD} {tl : Mem} {c c' : Nat} {p : PV} {l : List PV}
theorem cM7 : aI0 (List.range 23) (GB b ++ tl) (List.range 23) = some (GB b) := by kernel_rfl
theorem cJ3 : putB (List.range 23) (List.range 23) (GB b') (GB b ++ tl) = GB b' ++ tl := by kernel_rfl
theorem dG2 : (GB b ++ tl).length = 23 + tl.length := zzB
theorem bJ7 (ha : args.map (renV (List.range 23)) = args) (h : G x f args (OfC K b tl c) (GB b) c) : Of G x f args K (GB b ++ tl) c :=
 ⟨List.range 23, GB b, cM7, rfl, by rw [ha]; exact h⟩
theorem aM9 (h : c <= c') (k : K (.p p) (GB b' ++ tl) c') : OfC K b tl c (.p p) (GB b') c' := ⟨c', ⟨h, nR _⟩, .inl ⟨nR _, ⟨p, rfl⟩, by rw [cJ3]; exact k⟩⟩
theorem bP (h : c <= c') (k : K (.obj (23 + tl.length)) (GB b' ++ tl ++ [.pl l]) c') : OfC K b tl c (.obj 23) (GB b' ++ [.pl l]) c' := ⟨c', ⟨h, nR _⟩, .inr ⟨l, GB b', rfl, rfl, rfl, by rw [cJ3, dG2]; exact k⟩⟩
theorem aN1 (ha : args.map (renV (List.range 23)) = args) (h : G x f args (OfC K b [] c) (GB b) c) : Of G x f args K (GB b) c := by
 have := bJ7 (tl := []) ha h
 rw [List.append_nil] at this; exact this
theorem aU8 (h : c <= c') (k : K (.p p) (GB b') c') : OfC K b [] c (.p p) (GB b') c' := aM9 h (by rw [List.append_nil]; exact k)
theorem aT1 (h : c <= c') (k : K (.obj 23) (GB b' ++ [.pl l]) c') : OfC K b [] c (.obj 23) (GB b' ++ [.pl l]) c' := bP h (by rw [List.append_nil]; exact k)
theorem lv_ok : lvB K (.p p) (GB b ++ tl) c = K (.p p) (GB b) c := by
 cases tl with
 | nil => rw [List.append_nil]; kernel_rfl
 | cons o tl => kernel_rfl
theorem lv_lst : lvB K (.obj 23) (GB b ++ [.pl l]) c = K (.obj 23) (GB b ++ [.pl l]) c := by kernel_rfl
end
noncomputable def QB (k : Nat) (lp : Bool) (b : BD) (sp : List Spec) (c : Nat) (Z : T -> BD -> List Spec -> Nat -> Nat -> Prop) : Prop := ∀ t b' sp' c' u, Sp b sp c b' sp' c' u 13 -> Tr k lp b b' sp' (18 + gw k * u) u t -> isS t = false -> Z t b' sp' c' u
noncomputable def QN (k : Nat) (lp : Bool) (b : BD) (sp : List Spec) (c : Nat) (Z : T -> BD -> List Spec -> Nat -> Nat -> Prop) : Prop := ∀ t b' sp' c' u, Sp b sp c b' sp' c' u 3 -> Tr k lp b b' sp' (6 + gw k * u) u t -> isS t = true -> Z t b' sp' c' u
noncomputable def GBk (k : Nat) : Orc := fun x f args K m c => x = V "" /\ f = xBl /\ ∃ b sp d loop, args = [.obj 1, i_ d, i_ loop] /\ d = 3 - (k : Int) /\ m = GB b /\ Bi b sp /\ QB k (decide (0 < loop)) b sp c fun t b' _ c' _ => K (.obj 23) (GB b' ++ [.pl (encL t)]) c'
noncomputable abbrev xNd : Str := V "_law_node"
noncomputable def GNd (k : Nat) : Orc := fun x f args K m c => x = V "" /\ f = xNd /\ ∃ b sp d loop, args = [.obj 1, i_ d, i_ loop] /\ d = 3 - (k : Int) /\ m = GB b /\ Bi b sp /\ QN k (decide (0 < loop)) b sp c fun t b' _ c' _ => K (.p (enc t)) (GB b') c'
noncomputable def G0 : Orc := fun _ _ _ _ _ _ => False
noncomputable def Gu (P : PI) (B : Orc) : Orc := fun x f args K m c => br (f == xBl) (B x f args K m c) (x = V "" /\ run P HB (Od G0) 3 f args K m c)
noncomputable def Gp (P : PI) (B : Orc) : Orc := fun x f args K m c => br (f == xBl) (B x f args K m c) (x = V "" /\ br (f == V "_law_try") (run P HT (Od (Of (Gu P B))) 4 f args K m c) (br (f == V "_law_say") (run P HB (Od G0) 3 f args K m c) (run P HK (Od (Of (Gu P B))) 4 f args K m c)))
section
variable {P : PI} {G : Orc} {K : Kt MV} {b b' : BD} {sp : List Spec} {tl : Mem} {c c' k : Nat} {p : PV} {d loop : Int}
theorem aK7 : ([.obj 1, i_ d, i_ loop] : List MV).map (renV (List.range 23)) = [.obj 1, i_ d, i_ loop] := by kernel_rfl
theorem aN {args : List MV} {m : Mem} : Gu P G (V "") xBl args K m c = G (V "") xBl args K m c := by kernel_rfl
theorem bM9 {args : List MV} {m : Mem} : Gp P G (V "") xBl args K m c = G (V "") xBl args K m c := by kernel_rfl
theorem bF5 (hG : ∀ {args K m c}, G (V "") xBl args K m c = GBk k (V "") xBl args K m c) (hd : d = 3 - (k : Int)) (hb : Bi b sp) (q : QB k (decide (0 < loop)) b sp c fun t b' _ c' _ => K (.obj (23 + tl.length)) (GB b' ++ tl ++ [.pl (encL t)]) c') : cal (Of G) "_law_block" [.obj 1, i_ d, i_ loop] K (GB b ++ tl) c :=
 bJ7 aK7 (hG.mpr ⟨rfl, rfl, b, sp, d, loop, rfl, hd, rfl, hb, fun t b' sp' c' u s r i => bP s.lo (q t b' sp' c' u s r i)⟩)
theorem aL3 (hG : ∀ {args K m c}, G (V "") xBl args K m c = GBk k (V "") xBl args K m c) (hd : d = 3 - (k : Int)) (hb : Bi b sp) (q : QB k (decide (0 < loop)) b sp c fun t b' _ c' _ => K (.obj 23) (GB b' ++ [.pl (encL t)]) c') : cal (Of G) "_law_block" [.obj 1, i_ d, i_ loop] K (GB b) c :=
 aN1 aK7 (hG.mpr ⟨rfl, rfl, b, sp, d, loop, rfl, hd, rfl, hb, fun t b' sp' c' u s r i => aT1 s.lo (q t b' sp' c' u s r i)⟩)
theorem aH6 {n : Int} {Z : Nat -> BD -> Prop} (hb : Bi b sp) (q : ∀ r : Nat, (r : Int) < n -> Z r { b with at_ := b.at_ + 1 }) : aG0 b n Z := by
 unfold aG0; rw [hb.nums]; exact q
theorem cH4 : ([.obj 1] : List MV).map (renV (List.range 23)) = [.obj 1] := by kernel_rfl
theorem gp_say {args : List MV} {m : Mem} : Gp P G (V "") (V "_law_say") args K m c = (V "" = V "" /\ runB P G0 "_law_say" args K m c) := by kernel_rfl
theorem gp_try {args : List MV} {m : Mem} : Gp P G (V "") (V "_law_try") args K m c = (V "" = V "" /\ runT P (Of (Gu P G)) "_law_try" args K m c) := by kernel_rfl
theorem gp_arr {args : List MV} {m : Mem} : Gp P G (V "") (V "_law_array") args K m c = (V "" = V "" /\ runK P (Of (Gu P G)) "_law_array" args K m c) := by kernel_rfl
theorem gp_usg {args : List MV} {m : Mem} : Gp P G (V "") (V "_law_using") args K m c = (V "" = V "" /\ runK P (Of (Gu P G)) "_law_using" args K m c) := by kernel_rfl
theorem gp_pat {args : List MV} {m : Mem} : Gp P G (V "") (V "_law_pattern") args K m c = (V "" = V "" /\ runK P (Of (Gu P G)) "_law_pattern" args K m c) := by kernel_rfl
theorem gp_body {args : List MV} {m : Mem} : Gp P G (V "") (V "_law_body") args K m c = (V "" = V "" /\ runK P (Of (Gu P G)) "_law_body" args K m c) := by kernel_rfl
theorem bP7 (q : K (.p (aH7 (aA3 7 ((b.event : Int) + 1)))) (GB b.evt ++ tl) (c + 1)) : cal (Of (Gp P G)) "_law_say" [.obj 1] K (GB b ++ tl) c :=
 bJ7 cH4 (gp_say.mpr ⟨rfl, (dM2 ..).mpr (aM9 (b' := b.evt) (nA _ _) q)⟩)
theorem bO9 (q : K (.p (aH7 (aA3 7 ((b.event : Int) + 1)))) (GB b.evt) (c + 1)) : cal (Of (Gp P G)) "_law_say" [.obj 1] K (GB b) c :=
 aN1 cH4 (gp_say.mpr ⟨rfl, (dM2 ..).mpr (aU8 (b' := b.evt) (nA _ _) q)⟩)
end
noncomputable def QPn (n j : Nat) (lp : Bool) (b : BD) (sp : List Spec) (c : Nat) (Z : T -> BD -> List Spec -> Nat -> Nat -> Prop) : Prop := ∀ t b' sp' c' u, Sp b sp c b' sp' c' u n -> Tr j lp b b' sp' (6 + gw j * (u + 1)) (u + 1) t -> isS t = true -> Z t b' sp' c' u
noncomputable abbrev QP := QPn 61
section
variable {P : PI} {B : Orc} {K : Kt MV} {b b' b1 : BD} {sp sp' : List Spec} {tl : Mem} {c c' k j w w' u u' : Nat} {p : PV} {loop : Int} {lp : Bool} {t : T} {Z : T -> BD -> List Spec -> Nat -> Nat -> Prop}
theorem Tr.more (h : Tr j lp b b' sp w u t) (hw : w <= w') (hu : u <= u') : Tr j lp b b' sp w' u' t := ⟨h.ab, nT h.w hw, nT h.nn hu, h.kb, h.dep, h.fin⟩
theorem Tr.at_ (h : Tr j lp b1 b' sp w u t) (q : b.vars.length <= b1.vars.length) : Tr j lp b b' sp w u t := ⟨fun m hm => h.ab m (zzF hm q), h.w, h.nn, h.kb, h.dep, h.fin⟩
theorem Tr.later {c₀ : Nat} (h : Tr j lp b b1 sp w u t) (s : Sp b1 sp c b' sp' c₀ u' k) : Tr j lp b b' sp' w u t := ⟨h.ab, h.w, h.nn, h.kb, h.dep, fun F q => h.fin F (s.lt q)⟩
theorem eI0 : 12 <= gw j := by unfold gw; split <;> decide
theorem leaf (q : QP j lp b sp c Z) (s : Sp b sp c b' sp c' 0 k) (hk : k <= 61) (r : Tr j lp b b' sp 18 1 t) (i : isS t = true) : Z t b' sp c' 0 :=
 q t b' sp c' 0 (s.more hk) (r.more (by have := eI0 (j := j); lia) (nR _)) i
theorem bJ4 {F : Fs} (h : Lt b.evt sp F) : ev_ (numE b) := by have : b.event + 1 < 1000 := h.ev; show (b.event : Int) + 1 < 1000; lia
theorem le2 : 19 <= 37 * j + 19 := zzE _ _
theorem tr_say : Tr j lp b' b.evt sp 6 0 (.ex (.say (numE b))) := ⟨fun _ _ => trivial, nR _, nR _, zzN _, nT (show 8 <= 19 from (by decide)) le2, fun F h => ⟨bJ4 h, fun _ => trivial, fun _ _ => trivial, trivial⟩⟩
theorem dN4 : Tr j lp b' b.evt sp 18 1 (.jump (.ret (numE b))) := ⟨fun _ _ => trivial, (by decide : 5 <= 18), zzN _, zzN _, nT (show 8 <= 19 from (by decide)) le2, fun F h => ⟨bJ4 h, fun _ => trivial, fun _ _ => trivial, trivial⟩⟩
theorem dA7 : Tr j lp b' b.evt sp 18 1 (.ask (.jump (.ret (numE b))) .nil) := ⟨fun _ _ => ⟨trivial, trivial⟩, (by decide : 18 <= 18), (by decide : 1 <= 1), zzN _, le2, fun F h => ⟨⟨rfl, .inl rfl, bJ4 h, trivial⟩, fun _ => .inr ⟨trivial, trivial⟩, fun _ _ => ⟨trivial, trivial⟩, trivial, trivial⟩⟩
theorem cO7 {r : Nat} (h : r < 4) : Tr j lp b b' sp 18 1 (.ex (.hold r)) := ⟨fun _ _ => trivial, (by decide : 6 <= 18), zzN _, zzN _, nT (show 8 <= 19 from (by decide)) le2, fun F _ => ⟨h, fun _ => trivial, fun _ _ => trivial, trivial⟩⟩
theorem dE9 (h : lp = true) : Tr j lp b b' sp 18 1 (.jump .brk) := ⟨fun _ _ => trivial, (by decide : 5 <= 18), zzN _, zzN _, nT (show 8 <= 19 from (by decide)) le2, fun F _ => ⟨trivial, fun _ => h, fun _ _ => trivial, trivial⟩⟩
theorem cW7 (h : lp = true) : Tr j lp b b' sp 18 1 (.ask (.jump .brk) .nil) := ⟨fun _ _ => ⟨trivial, trivial⟩, (by decide : 18 <= 18), (by decide : 1 <= 1), zzN _, le2, fun F _ => ⟨⟨rfl, .inl rfl, trivial, trivial⟩, fun _ => .inr ⟨h, trivial⟩, fun _ _ => ⟨trivial, trivial⟩, trivial, trivial⟩⟩
theorem cE (h : lp = true) : Tr j lp b b' sp 18 1 (.ask (.jump .cont) .nil) := ⟨fun _ _ => ⟨trivial, trivial⟩, (by decide : 18 <= 18), (by decide : 1 <= 1), zzN _, le2, fun F _ => ⟨⟨rfl, .inl rfl, trivial, trivial⟩, fun _ => .inl ⟨rfl, rfl, h⟩, fun _ _ => ⟨trivial, trivial⟩, trivial, trivial⟩⟩
theorem dB1 {r : Nat} (h : r < 3) : Tr j lp b b' sp 18 1 (.ask (.jump (.thr r)) .nil) := ⟨fun _ _ => ⟨trivial, trivial⟩, (by decide : 18 <= 18), (by decide : 1 <= 1), zzN _, le2, fun F _ => ⟨⟨rfl, .inl rfl, (zzF h (by decide) : r < 10), trivial⟩, fun _ => .inr ⟨trivial, trivial⟩, fun _ _ => ⟨trivial, trivial⟩, trivial, trivial⟩⟩
noncomputable abbrev Zk (K : Kt MV) : T -> BD -> List Spec -> Nat -> Nat -> Prop := fun t b' _ c' _ => K (.p (enc t)) (GB b') c'
theorem bG5 (q : QP j lp b sp c (Zk K)) : sayK (Of (Gp P B)) b K c := by
 have h := leaf q (Sp.evt b c) (by decide) (tr_say.more (by decide) (zzN _)) rfl
 exact bO9 (by have e := lv_ok (K := K) (b := b.evt) (tl := []) (c := c + 1) (p := aH7 (aA3 7 (numE b))); rw [List.append_nil] at e; exact e.mpr h)
theorem brd {p : Prop} [Decidable p] {X Y : Prop} (h1 : p -> X) (h2 : ¬p -> Y) : br (decide p) X Y := by
 by_cases h : p
 ·exact decT h (h1 h)
 ·exact decF h (h2 h)
theorem nd_6 (hb : Bi b sp) (q : QP j lp b sp c (Zk K)) : nd6 K b c := aH6 hb fun r hr =>
 brd (fun _ => leaf (t := .jump (.ret (numE b))) q ((Sp.draw b c).trans (Sp.evt _ _)) (by decide) (dN4 (b := { b with at_ := b.at_ + 1 })) rfl) fun _ => leaf (t := .ask (.jump (.ret (numE b))) .nil) q ((Sp.draw b c).trans (Sp.evt _ _)) (by decide) (dA7 (b := { b with at_ := b.at_ + 1 })) rfl
theorem nd_7 (hb : Bi b sp) (h : 0 < loop) (q : QP j (decide (0 < loop)) b sp c (Zk K)) : nd7 K b c := aH6 hb fun r hr =>
 brd (fun _ => leaf (t := .jump .brk) q (Sp.draw b c) (by decide) (dE9 (decide_eq_true h)) rfl) fun _ => leaf (t := .ask (.jump .brk) .nil) q (Sp.draw b c) (by decide) (cW7 (decide_eq_true h)) rfl
theorem nd_8 (h : 0 < loop) (q : QP j (decide (0 < loop)) b sp c (Zk K)) : nd8 K b c := leaf (t := .ask (.jump .cont) .nil) q (Sp.refl b c) (by decide) (cE (decide_eq_true h)) rfl
theorem eB9 (hb : Bi b sp) (q : QP j lp b sp c (Zk K)) : nd10 K b c := aH6 hb fun r hr => leaf (t := .ask (.jump (.thr r)) .nil) q (Sp.draw b c) (by decide) (dB1 (by lia)) rfl
theorem dZ4 (hb : Bi b sp) (q : QP j lp b sp c (Zk K)) : nd12 K b c := aH6 hb fun r hr => leaf (t := .ex (.hold r)) q (Sp.draw b c) (by decide) (cO7 (by lia)) rfl
end
noncomputable def aI2 (x : T) : T -> T
 | .cons s r => .cons s (aI2 x r)
 | _ => .cons x .nil
section
variable {x : T}
theorem cB6 {p : T -> Prop} (hc : ∀ s r, p (aI2 x r) -> p (.cons s (aI2 x r))) (h0 : p (.cons x .nil)) (t : T) : p (aI2 x t) := by
 induction t with
 | cons s r _ ih => exact hc s r ih
 | _ => exact h0
theorem aH5 {p : T -> Prop} (hc : ∀ s r, p (.cons s r) -> p s /\ p r) (hd : ∀ s r, p s -> p r -> p (.cons s r)) (h0 : p (.cons x .nil)) (t : T) : p t -> p (aI2 x t) := by
 induction t with
 | cons s r _ ih => exact fun h => hd s _ (hc s r h).1 (ih (hc s r h).2)
 | _ => exact fun _ => h0
theorem bO0 {f : T -> Nat} (hc : ∀ s r, f (.cons s r) = f s + f r) (h0 : f .nil = 0) (t : T) : f (aI2 x t) <= f t + f x := by
 induction t with
 | cons s r _ ih =>
  show f (.cons s (aI2 x r)) <= _
  rw [hc, hc, Nat.add_assoc]
  exact zzD ih _
 | _ => show f (.cons x .nil) <= _; rw [hc, h0]; exact zzE _ _
theorem bG1 (t : T) : isS (aI2 x t) = false := by cases t <;> rfl
theorem cE4 (t : T) : encL (aI2 x t) = encL t ++ [enc x] := by
 induction t with
 | cons s r _ ih => exact congrArg (enc s :: ·) ih
 | _ => rfl
theorem cX6 (i : isS x = true) (o : Ok x) (t : T) : Ok t -> Ok (aI2 x t) := by
 induction t with
 | cons s r _ ih => exact fun k => ⟨k.1, bG1 r, k.2.2.1, ih k.2.2.2⟩
 | _ => exact fun _ => ⟨i, rfl, o, trivial⟩
theorem cP9 (h : nn x = true) (t : T) : nn (aI2 x t) = true := cB6 (p := fun t => nn t = true) (fun s r q => by show (nn s || nn (aI2 x r)) = true; rw [q, Bool.or_true]) (by show (nn x || nn .nil) = true; rw [h]; rfl) t
end
section
variable {P : PI} {G : Orc} {K : Kt MV} {b b' : BD} {sp sp' : List Spec} {tl : Mem} {c c' k w u : Nat} {p : PV} {l : List PV} {vs : List MV} {d : Int} {e : Bool} {t : T} {Z : T -> BD -> List Spec -> Nat -> Nat -> Prop}
theorem gw1 (hk : k <= 2) : 3 * (gw k * u) + 187 <= gw (k + 1) * (u + 1) := by
 match k, hk with
 | 0, _ => show 3 * (12 * u) + 187 <= 187 * (u + 1); lia
 | 1, _ => show 3 * (187 * u) + 187 <= 561 * (u + 1); lia
 | 2, _ => show 3 * (561 * u) + 187 <= 1683 * (u + 1); lia
theorem gw2 (hk : k <= 2) (hu : u <= 12) : gw k * u <= 6732 := by
 match k, hk with
 | 0, _ => show 12 * u <= 6732; lia
 | 1, _ => show 187 * u <= 6732; lia
 | 2, _ => show 561 * u <= 6732; lia
theorem Sp.u12 {n : Nat} (h : Sp b sp c b' sp' c' u n) (q : Bi b sp) : u <= 12 := by have := h.pot; have := q.left; lia
theorem w1 {a : Nat} (hk : k <= 2) (hw : w <= 23 + gw k * u) (ha : a <= 58) : a + w <= 6 + gw (k + 1) * (u + 1) := by have := gw1 (u := u) hk; lia
theorem kb1 {a kb : Nat} (hk : k <= 2) (hu : u <= 12) (hw : w <= 23 + gw k * u) (ha : a <= 27) (h : kb <= 6800) : Nat.max (a + w) kb <= 6800 := zzW.mpr ⟨by have := gw2 hk hu; lia, h⟩
theorem n1 {n : Nat} (h : n <= u) : 1 + n <= u + 1 := by lia
theorem d1 {n a : Nat} (h : n <= 37 * k + 19) (ha : a <= 37) : n + a <= 37 * (k + 1) + 19 := by lia
theorem jn_ok {Kc : Kt MV} : jnK Kc (.obj 23) (GB b ++ .pl l :: tl) c = Kc (.p (aA1 l)) (GB b ++ .pl l :: tl) c := by kernel_rfl
theorem aK5 (h : allP vs = some l) (hl : Nat.ble l.length 1000 = true) (q : K (.p (.tup l)) (GB b) c) : tupV vs (lvB K) (GB b ++ tl) c := by
 unfold tupV; rw [h]; show chk (Nat.ble l.length 1000) _; rw [hl]; exact lv_ok.mpr q
theorem cB1 : ([.obj 1, i_ d, b_ e] : List MV).map (renV (List.range 23)) = [.obj 1, i_ d, b_ e] := by kernel_rfl
theorem app_ok : dT7 P G d (.obj 23) K (GB b ++ [.pl l]) c = K (.obj 23) (GB b ++ [.pl (l ++ [.tup [pi 10]])]) (c + 1) := by kernel_rfl
theorem cR3 (h : Tr k true b b' sp' w u t) : Tr k true b b' sp' (w + 5) u (aI2 (.jump .brk) t) where
 ab m hm := aH5 (fun _ _ q => q) (fun _ _ a b => ⟨a, b⟩) ⟨trivial, trivial⟩ t (h.ab m hm)
 w := nT (bO0 (fun _ _ => rfl) rfl t) (zzS h.w 5)
 nn := nT (bO0 (fun _ _ => rfl) rfl t) h.nn
 kb := aH5 (p := fun t => KB t <= 6800) (fun _ _ q => zzW.mp q) (fun _ _ a b => zzW.mpr ⟨a, b⟩) (zzN _) t h.kb
 dep := aH5 (p := fun t => dl t <= 37 * k + 19) (fun _ _ q => zzW.mp q) (fun _ _ a b => zzW.mpr ⟨a, b⟩) (nT (show 8 <= 19 from by decide) le2) t h.dep
 fin F hF := by
  have f := h.fin F hF
  exact ⟨cX6 (x := .jump .brk) rfl trivial t f.ok, fun D => aH5 (fun _ _ q => q) (fun _ _ a b => ⟨a, b⟩) ⟨rfl, trivial⟩ t (f.okT D), fun n hn => aH5 (fun _ _ q => q) (fun _ _ a b => ⟨a, b⟩) ⟨trivial, trivial⟩ t (f.vk n hn), aH5 (fun _ _ q => q) (fun _ _ a b => ⟨a, b⟩) ⟨trivial, trivial⟩ t f.vd⟩
noncomputable def QY (k : Nat) (e : Bool) (b : BD) (sp : List Spec) (c : Nat) (Z : T -> BD -> List Spec -> Nat -> Nat -> Prop) : Prop := ∀ t b' sp' c' u, Sp b sp c b' sp' c' u 14 -> Tr k true b b' sp' (23 + gw k * u) u t -> isS t = false -> (e = true -> nn t = true) -> Z t b' sp' c' u
theorem bT2 (hd : d + 1 = 3 - (k : Int)) (hb : Bi b sp) (q : QY k e b sp c fun t b' _ c' _ => K (.obj 23) (GB b' ++ [.pl (encL t)]) c') : cal (Of (Gp P (GBk k))) "_law_body" [.obj 1, i_ d, b_ e] K (GB b) c := by
 refine aN1 cB1 (gp_body.mpr ⟨rfl, ?_⟩)
 cases e with
 | false => exact (cY2 ..).mpr (aL3 aN hd hb fun t b' sp' c' u s r i => lv_lst.mpr (aT1 s.lo (q t b' sp' c' u (s.more (by decide)) (r.more (by lia) (nR _)) i (fun z => (nomatch z)))))
 | true =>
  refine (cZ7 ..).mpr (aL3 aN hd hb fun t b' sp' c' u s r i => app_ok.mpr (aT1 (Nat.le_succ_of_le s.lo) ?_))
  exact (cE4 (x := .jump .brk) t) ▸ q (aI2 (.jump .brk) t) b' sp' (c' + 1) u (s.trans (Sp.cost b' c' 1)) ((cR3 r).more (by lia) (nR _)) (bG1 t) fun _ => cP9 rfl t
end
section
variable {P : PI} {G : Orc} {K Kc : Kt MV} {b b' b1 b2 : BD} {sp sp' sp2 : List Spec} {tl : Mem} {c c' k w u u₁ u₂ : Nat} {p x y z : PV} {l l' : List PV} {d loop : Int} {lp e : Bool} {t t2 : T} {m : Mem}
theorem tv1 : tupV [.p x] Kc m c = Kc (.p (.tup [x])) m c := by kernel_rfl
theorem tv2 : tupV [.p x, .p y] Kc m c = Kc (.p (.tup [x, y])) m c := by kernel_rfl
theorem jn_2 : jnK Kc (.obj (23 + [MO.pl l].length)) (GB b ++ [.pl l] ++ [.pl l']) c = Kc (.p (aA1 l')) (GB b ++ [.pl l, .pl l']) c := by kernel_rfl
theorem dr_at {n : Int} : Od G (V "") xDr [.obj 1, i_ n] K (GB b ++ tl) c = chk (decide (0 < n) && allI b.nums) (∀ r : Nat, (r : Int) < n -> K (i_ r) (GB { b with at_ := b.at_ + 1 } ++ tl) (c + 1)) := by kernel_rfl
theorem cmp_ok {i n : Int} {X Y : Mem -> Nat -> Prop} : cmpE (i_ i) (i_ n) (fun x => truK x fun z m c => br z (X m c) (Y m c)) m c = br (decide (i = n)) (X m c) (Y m c) := by kernel_rfl
theorem br_t {X Y : Prop} (h : X) : br true X Y := h
theorem aI1 {a : Bool} {X : Prop} (h : a = true) (x : X) : chk a X := by rw [h]; exact x
theorem bN4 {z : PV -> Bool -> BD -> Nat -> Prop} (hb : Bi b sp) (q : ∀ t : Tst, t ≠ .non -> z (tst t) (aC0 t) { b with at_ := b.at_ + 1 } (c + 1)) : cP8 b c z :=
 aH6 hb fun r hr => brd (fun _ => q .one (fun h => nomatch h)) fun _ => brd (fun _ => q .zero (fun h => nomatch h)) fun _ => q .ask (fun h => nomatch h)
theorem Bi.draw (hb : Bi b sp) : Bi { b with at_ := b.at_ + 1 } sp := ⟨hb.nums, hb.spE, hb.cnt, hb.left, hb.vars⟩
variable (hk : k <= 2)
include hk
theorem cM2 {ts : Tst} (h : Tr k true b b' sp' (23 + gw k * u) u t) (i : isS t = false) (hu : u <= 12) (hn : aC0 ts = true -> nn t = true) (ht : ts ≠ .non) : Tr (k + 1) lp b b' sp' (6 + gw (k + 1) * (u + 1)) (u + 1) (.whil ts (.blk t)) where
 ab m hm := h.ab m hm
 w := w1 (a := 21) hk h.w (by decide)
 nn := n1 h.nn
 kb := kb1 (a := 13) hk hu h.w (by decide) h.kb
 dep := d1 (a := 18) h.dep (by decide)
 fin F hF := have f := h.fin F hF; ⟨⟨rfl, i, f.ok⟩, fun D => ⟨hn, f.okT D⟩, f.vk, ht, f.vd⟩
theorem cI0 {ts : Tst} (h : Tr k true b b' sp' (18 + gw k * u) u t) (i : isS t = false) (hu : u <= 12) (ht : aC0 ts = false) (hs : ts ≠ .non) : Tr (k + 1) lp b b' sp' (6 + gw (k + 1) * (u + 1)) (u + 1) (.dow ts (.blk t)) where
 ab m hm := h.ab m hm
 w := by have := gw1 (u := u) hk; have := h.w; show 8 + (W t + 13) <= _; lia
 nn := n1 h.nn
 kb := kb1 (a := 13) hk hu (nT h.w (zzS (by decide) _)) (by decide) h.kb
 dep := d1 (a := 18) h.dep (by decide)
 fin F hF := have f := h.fin F hF; ⟨⟨hs, rfl, i, f.ok⟩, fun D => ⟨ht, f.okT D⟩, f.vk, f.vd⟩
theorem dI4 {ts : Tst} (h : Tr k true b b' sp' (23 + gw k * u) u t) (i : isS t = false) (hu : u <= 12) (hn : aC0 ts = true -> nn t = true) : Tr (k + 1) lp b b'.evt.evt.evt sp' (6 + gw (k + 1) * (u + 1)) (u + 1) (.for_ (numE b') ts (numE b'.evt) (numE b'.evt.evt) (.blk t)) where
 ab m hm := h.ab m hm
 w := w1 (a := 26) hk h.w (by decide)
 nn := n1 h.nn
 kb := kb1 (a := 27) hk hu h.w (by decide) h.kb
 dep := d1 (a := 18) h.dep (by decide)
 fin F hF := by
  have g2 : Lt b'.evt.evt sp' F := (Sp.evt b'.evt.evt 0).lt hF
  have g1 : Lt b'.evt sp' F := (Sp.evt b'.evt 0).lt g2
  have f := h.fin F ((Sp.evt b' 0).lt g1)
  exact ⟨⟨rfl, bJ4 g1, bJ4 g2, bJ4 hF, i, f.ok⟩, fun D => ⟨hn, f.okT D⟩, f.vk, f.vd⟩
theorem nd_3 (hd : d + 1 = 3 - (k : Int)) (hb : Bi b sp) (q : QP (k + 1) lp b sp c (Zk K)) : nd3 (Of (Gp P (GBk k))) K d b c :=
 bN4 hb fun ts ht => bT2 hd hb.draw fun t b' sp' c' u s r i hn => jn_ok.mpr (aK5 rfl rfl
  (q (.whil ts (.blk t)) b' sp' c' u ((Sp.draw b c).ahead s (by decide)) ((cM2 hk r i (s.u12 hb.draw) hn ht).at_ (nR _)) rfl))
theorem nd_4 (hd : d + 1 = 3 - (k : Int)) (hb : Bi b sp) (q : QP (k + 1) lp b sp c (Zk K)) : nd4 (Of (Gp P (GBk k))) K d b c :=
 aL3 bM9 hd hb fun t b' sp' c' u s r i => jn_ok.mpr (dr_at.mpr (by
  have hb' := s.bi hb
  refine aI1 hb'.nums ?_
  refine fun n hn => cmp_ok.mpr (brd (fun _ => ?_) fun _ => ?_)
  ·exact aK5 (l := [pi 6, aA1 (encL t), aJ6 1 0]) rfl rfl (q (.dow .zero (.blk t)) { b' with at_ := b'.at_ + 1 } sp' (c' + 1) u ((s.trans (Sp.draw b' c')).more (by decide)) ((cI0 (ts := .zero) hk r i (s.u12 hb) rfl (fun h => nomatch h)).later (Sp.draw b' c')) rfl)
  ·exact aK5 (l := [pi 6, aA1 (encL t), eAsk]) rfl rfl (q (.dow .ask (.blk t)) { b' with at_ := b'.at_ + 1 } sp' (c' + 1) u ((s.trans (Sp.draw b' c')).more (by decide)) ((cI0 (ts := .ask) hk r i (s.u12 hb) rfl (fun h => nomatch h)).later (Sp.draw b' c')) rfl)))
theorem nd_5 (hd : d + 1 = 3 - (k : Int)) (hb : Bi b sp) (q : QP (k + 1) lp b sp c (Zk K)) : nd5 (Of (Gp P (GBk k))) K d b c := by
 have go : ∀ (ts : Tst) (e : Bool) (b1 : BD) (c₁ : Nat), (aC0 ts = true -> e = true) -> Sp b sp c b1 sp c₁ 0 3 -> b1.vars = b.vars -> Bi b1 sp ->
   nd5g (Of (Gp P (GBk k))) K d e (tst ts) b1 c₁ := fun ts e b1 c₁ he s1 hv hb1 =>
  bT2 hd hb1 fun t b' sp' c' u s r i hn => jn_ok.mpr (bP7 (tv1.mpr (bP7 (bP7 (tv2.mpr (aK5 rfl rfl
   (q (.for_ (numE b') ts (numE b'.evt) (numE b'.evt.evt) (.blk t)) b'.evt.evt.evt sp' (c' + 1 + 1 + 1) u ((s1.ahead s (nR _)).trans (((Sp.evt b' c').trans (Sp.evt _ _)).trans (Sp.evt _ _)) |>.more (by decide)) ((dI4 hk r i (s.u12 hb1) fun z => hn (he z)).at_ (hv ▸ nR _)) rfl)))))))
 refine bN4 hb fun ts ht => ?_
 cases he : aC0 ts with
 | false => exact go ts false _ _ (fun z => he.symm.trans z) ((Sp.draw b c).more (by decide)) rfl hb.draw
 | true => exact br_t (aH6 hb.draw fun r hr => brd (fun _ => go .non true _ _ (fun _ => rfl) (((Sp.draw b c).trans (Sp.draw _ _)).more (by decide)) rfl hb.draw.draw) fun _ => go ts true _ _ (fun _ => rfl) (((Sp.draw b c).trans (Sp.draw _ _)).more (by decide)) rfl hb.draw.draw)
theorem gw3 : 3 * (gw k * u₁ + gw k * u₂) + 187 <= gw (k + 1) * (u₁ + u₂ + 1) := by rw [<- Nat.mul_add]; exact gw1 hk
theorem nd_9 (hd : d + 1 = 3 - (k : Int)) (hb : Bi b sp) (q : QP (k + 1) (decide (0 < loop)) b sp c (Zk K)) : nd9 (Of (Gp P (GBk k))) K d loop b c :=
 aL3 bM9 hd hb fun t b' sp' c' u s r i => jn_ok.mpr (dr_at.mpr (by
  have hb' := s.bi hb
  refine aI1 hb'.nums ?_
  refine fun n hn => cmp_ok.mpr (brd (fun _ => ?_) fun _ => ?_)
  ·refine bF5 (tl := [.pl (encL t)]) bM9 hd hb'.draw fun t2 b2 sp2 c2 u₂ s2 r₂ i2 => jn_2.mpr (aK5 (l := [pi 4, eAsk, aA1 (encL t), aA1 (encL t2)]) rfl rfl ?_)
   exact q (.ask (.blk t) (.blk t2)) b2 sp2 c2 (u + u₂) (((s.trans (Sp.draw b' c')).trans s2).more (by decide))
    {ab := fun m hm => ⟨r.ab m hm, r₂.ab m (zzF hm s.vlen)⟩
     w := by have := r.w; have := r₂.w; have := gw3 (u₁ := u) (u₂ := u₂) hk; show 13 + (W t + W t2) <= _; lia
     nn := n1 (Nat.add_le_add r.nn r₂.nn)
     kb := zzW.mpr ⟨r.kb, r₂.kb⟩
     dep := d1 (a := 16) (n := Nat.max (dl t) (dl t2)) (zzW.mpr ⟨r.dep, r₂.dep⟩) (by decide) |> nT (zzS (zzW.mpr ⟨zzS (Nat.le_max_left _ _) 5, zzS (Nat.le_max_right _ _) 5⟩) 11)
     fin := fun F hF => by
      have f := r.fin F ((Sp.draw b' c').lt (s2.lt hF))
      have f2 := r₂.fin F hF
      exact ⟨⟨rfl, .inr rfl, ⟨i, f.ok⟩, i2, f2.ok⟩, fun D => .inr ⟨f.okT D, f2.okT D⟩, fun n hn => ⟨f.vk n hn, f2.vk n hn⟩, f.vd, f2.vd⟩ } rfl
  ·refine aK5 (l := [pi 4, eAsk, aA1 (encL t), .none]) rfl rfl ?_
   exact q (.ask (.blk t) .nil) { b' with at_ := b'.at_ + 1 } sp' (c' + 1) u ((s.trans (Sp.draw b' c')).more (by decide))
    {ab := fun m hm => ⟨r.ab m hm, trivial⟩
     w := by have := r.w; have := gw1 (u := u) hk; show 13 + (W t + 0) <= _; lia
     nn := n1 r.nn
     kb := zzW.mpr ⟨r.kb, zzN _⟩
     dep := d1 (a := 16) r.dep (by decide) |> nT (zzS (zzW.mpr ⟨nR (dl t + 5), zzN _⟩) 11)
     fin := fun F hF => by
      have f := r.fin F ((Sp.draw b' c').lt hF)
      exact ⟨⟨rfl, .inl rfl, ⟨i, f.ok⟩, trivial⟩, fun D => .inr ⟨f.okT D, trivial⟩, fun n hn => ⟨f.vk n hn, trivial⟩, f.vd, trivial⟩ } rfl))
end
noncomputable abbrev newV : List MV := [.inst 5 (V "Unit"), i_ 1, .p (.str (V "e")), i_ 12, i_ 0]
noncomputable def finT (k : MV -> Mem -> Nat -> Prop) : Kt MV := jnK fun l => getI (.obj 1) (.p (.str (V "final"))) fun u => iop .Sub u (i_ 1) fun w => setI (.obj 1) (.p (.str (V "final"))) w fun _ => k l
noncomputable def hdlT (lid : MV) (k : MV -> Mem -> Nat -> Prop) : Kt MV := jnK fun h => tupV [i_ (-1), lid, n_, h] fun row => tupV [row] k
section
variable {P : PI} {B G : Orc} {K Kc : Kt MV} {b b' : BD} {tl : Mem} {c k v : Nat} {p s : PV} {l l' : List PV} {d loop : Int} {e : Bool} {m : Mem}
theorem cU1 : newV.map (renV (List.range 23)) = newV := by kernel_rfl
theorem dV0 : ([.obj 1, .p (pn v), i_ 12] : List MV).map (renV (List.range 23)) = [.obj 1, .p (pn v), i_ 12] := by kernel_rfl
theorem gu_new {args : List MV} {m : Mem} : Gu P B (V "") (V "new_var") args K m c = (V "" = V "" /\ runB P G0 "new_var" args K m c) := by kernel_rfl
theorem gu_sh {args : List MV} {m : Mem} : Gu P B (V "") (V "_law_shown") args K m c = (V "" = V "" /\ runB P G0 "_law_shown" args K m c) := by kernel_rfl
theorem b_new : runB P G "new_var" newV K (GB b) c = K (.p (pn b.vars.length)) (GB (b.var "e" 12)) (c + 1 + 1) := by kernel_rfl
theorem dN5 (q : K (.p (pn b.vars.length)) (GB (b.var "e" 12) ++ tl) (c + 1 + 1)) : cal (Of (Gu P B)) "new_var" newV K (GB b ++ tl) c :=
 bJ7 cU1 (gu_new.mpr ⟨rfl, b_new.mpr (aM9 (b' := b.var "e" 12) (nA c 2) q)⟩)
theorem dV3 (q : K (.p (aH7 (eAsg 12 (aA3 12 (numE b)) (eLoc 12 v)))) (GB b.evt ++ tl) (c + 1)) : cal (Of (Gu P B)) "_law_shown" [.obj 1, .p (pn v), i_ 12] K (GB b ++ tl) c :=
 bJ7 dV0 (gu_sh.mpr ⟨rfl, (dB3 ..).mpr (aM9 (b' := b.evt) (nA _ _) q)⟩)
theorem hd_1 {k : MV -> Mem -> Nat -> Prop} : hdlK G d loop k (GB b ++ tl) c = cal G "new_var" newV (fun lid => cal G "_law_shown" [.obj 1, lid, i_ 12] fun s => newList [s] fun a => cal G "_law_block" [.obj 1, i_ d, i_ loop] fun bl => aF0 .Add a bl (hdlT lid k)) (GB b ++ tl) c := by kernel_rfl
theorem hd_3 : newList [.p s] Kc (GB b ++ [.pl l]) c = Kc (.obj 24) (GB b ++ [.pl l, .pl [s]]) (c + 1) := by kernel_rfl
theorem hd_4 {k : MV -> Mem -> Nat -> Prop} : aF0 .Add (.obj 24) (.obj (23 + [MO.pl l, .pl [s]].length)) (hdlT (.p (pn v)) k) (GB b ++ [.pl l, .pl [s]] ++ [.pl l']) c = k (.p (.tup [.tup [pi (-1), pn v, .none, aA1 (s :: l')]])) (GB b ++ [.pl l, .pl [s], .pl l', .pl (s :: l')]) (c + 1) := by kernel_rfl
theorem fin_1 {k : MV -> Mem -> Nat -> Prop} : finK G d k (GB b ++ tl) c = cal G "_law_block" [.obj 1, i_ d, i_ 0] (finT k) (GB { b with final := b.final + 1 } ++ tl) (c + 1) := by kernel_rfl
theorem fin_2 {k : MV -> Mem -> Nat -> Prop} {o : MO} : finT k (.obj (23 + [o].length)) (GB b ++ [o] ++ [.pl l]) c = k (.p (aA1 l)) (GB { b with final := b.final - 1 } ++ [o, .pl l]) (c + 1) := by kernel_rfl
theorem fin_4 {k : MV -> Mem -> Nat -> Prop} {o1 o2 o3 o4 : MO} : finT k (.obj (23 + [o1, o2, o3, o4].length)) (GB b ++ [o1, o2, o3, o4] ++ [.pl l]) c = k (.p (aA1 l)) (GB { b with final := b.final - 1 } ++ [o1, o2, o3, o4, .pl l]) (c + 1) := by kernel_rfl
end
structure Cp (k : Nat) (lp : Bool) (n0 : Nat) (b' : BD) (sp' : List Spec) (lid w u : Nat) (x : T) : Prop where
 ab : ∀ m, m < n0 -> Ab m x
 w : W x <= w
 nn : Nn x <= u
 kb : KB x <= 6800
 dep : dl x <= 37 * k + 24
 fin : ∀ F, Lt b' sp' F -> Ok x /\ (∀ D, lid ∈ D -> OkT F.sp lp D x) /\ (∀ n, F.vs.length <= n + 1 -> Vk n x) /\ Vd F.vs x
section
variable {B : Orc} {b b' b1 : BD} {sp sp' sp1 : List Spec} {c k w u u' u₁ u₂ u₃ w₂ w3 lid n0 : Nat} {z s : PV} {vs : List MV} {lp : Bool} {t h f : T} {m : Mem}
theorem cH3 : Cp k lp n0 b' sp' lid 0 0 .nil := ⟨fun _ _ => trivial, nR _, nR _, zzN _, zzN _, fun _ _ => ⟨trivial, fun _ _ => trivial, fun _ _ => trivial, trivial⟩⟩
theorem aW3 (r : Tr k lp b b' sp' w u t) (i : isS t = false) (q : n0 <= b.vars.length) : Cp k lp n0 b' sp' lid w u (.blk t) :=
 ⟨fun m hm => r.ab m (zzF hm q), r.w, r.nn, r.kb, zzS r.dep 5, fun F hF => have f := r.fin F hF; ⟨⟨i, f.ok⟩, fun D _ => f.okT D, f.vk, f.vd⟩⟩
theorem cV5 (r : W t <= w) : W (.blk (.cons (.ex (.shown lid x' ev)) t)) <= 6 + w := zzD r 6
theorem aP2 (r : dl t <= 37 * k + 19) {x' ev : Int} : dl (.blk (.cons (.ex (.shown lid x' ev)) t)) <= 37 * k + 24 := zzS (zzW.mpr ⟨nT (show 8 <= 19 by decide) le2, r⟩) 5
theorem bA (r : Nn t <= u) {x' ev : Int} : Nn (.blk (.cons (.ex (.shown lid x' ev)) t)) <= u := nT (Nat.le_of_eq (Nat.zero_add _)) r
theorem aS4 (r : KB t <= 6800) {x' ev : Int} : KB (.blk (.cons (.ex (.shown lid x' ev)) t)) <= 6800 := zzW.mpr ⟨zzN _, r⟩
theorem dT1 {ev : Int} (r : Tr k lp b b' sp' w u t) (i : isS t = false) (q : n0 <= b.vars.length) (hl : ∀ F, Lt b' sp' F -> lid < F.vs.length) : Cp k lp n0 b' sp' lid (6 + w) u (.blk (.cons (.ex (.shown lid 12 ev)) t)) :=
 ⟨fun m hm => ⟨trivial, r.ab m (zzF hm q)⟩, cV5 r.w, bA r.nn, aS4 r.kb, aP2 r.dep, fun F hF => have f := r.fin F hF; ⟨⟨rfl, rfl, i, trivial, f.ok⟩, fun D hD => ⟨hD, f.okT D⟩, fun n hn => ⟨Nat.le_of_lt_succ (zzF (hl F hF) hn), f.vk n hn⟩, trivial, f.vd⟩⟩
theorem Cp.later {c₀ n : Nat} (r : Cp k lp n0 b1 sp1 lid w u t) (s : Sp b1 sp1 c b' sp' c₀ u' n) : Cp k lp n0 b' sp' lid w u t := ⟨r.ab, r.w, r.nn, r.kb, r.dep, fun F q => r.fin F (s.lt q)⟩
theorem bQ4 (hk : k <= 2) (B : Cp k lp b.vars.length b' sp' lid (18 + gw k * u₁) u₁ (.blk t)) (Bo : ∀ F, Lt b' sp' F -> ∀ D, OkT F.sp lp D (.blk t)) (H : Cp k lp b.vars.length b' sp' lid w₂ u₂ h) (L : Cp k false b.vars.length b' sp' lid w3 u₃ f) (Lo : ∀ F, Lt b' sp' F -> ∀ D, OkT F.sp false D f)
  (hz : lid = 0 -> h = .nil) (hh : lid = 0 ∨ isS h = true) (hf : f = .nil ∨ isS f = true) (hl : lid = 0 ∨ (1 < lid /\ b.vars.length <= lid /\ ∀ F, Lt b' sp' F -> lid < F.vs.length)) (hw : w₂ + w3 <= 42 + (gw k * u₂ + gw k * u₃)) : Tr (k + 1) lp b b' sp' (6 + gw (k + 1) * (u₁ + u₂ + u₃ + 1)) (u₁ + u₂ + u₃ + 1) (.try_ lid (.blk t) h f) where
 ab m hm := ⟨hl.imp_right fun q => zzF hm q.2.1, B.ab m hm, H.ab m hm, L.ab m hm⟩
 w := by
  have h1 := gw1 (u := u₁ + u₂ + u₃) hk
  rw [Nat.mul_add, Nat.mul_add] at h1
  have := B.w; have := H.w; have := L.w
  show 32 + (W (.blk t) + (W h + W f)) <= _
  lia
 nn := by have := B.nn; have := H.nn; have := L.nn; show 1 + (Nn (.blk t) + (Nn h + Nn f)) <= _; lia
 kb := zzW.mpr ⟨B.kb, zzW.mpr ⟨H.kb, L.kb⟩⟩
 dep := nT (zzS (zzW.mpr ⟨B.dep, zzW.mpr ⟨H.dep, L.dep⟩⟩) 9) (by lia)
 fin F hF := by
  have f1 := B.fin F hF
  have f2 := H.fin F hF
  have f3 := L.fin F hF
  exact ⟨⟨rfl, hh, hf, f1.1, f2.1, f3.1⟩, fun D => ⟨hl.imp_right And.left, Bo F hF D, f2.2.1 (lid :: D) (.head _), Lo F hF D⟩, fun n hn => ⟨hl.elim (fun z => z ▸ zzN _) fun q => Nat.le_of_lt_succ (zzF (q.2.2 F hF) hn), f1.2.2.1 n hn, f2.2.2.1 n hn, f3.2.2.1 n hn⟩, hz, f1.2.2.2, f2.2.2.2, f3.2.2.2⟩
theorem cC5 {h : PV} (q : 1 < lid) : bI4 lid h = .tup [.tup [pi (-1), pn lid, .none, h]] := by
 match lid, q with
 | _ + 1, _ => rfl
theorem bM2 {nm : String} {kd : Int} {F : Fs} (h : Lt (b.var nm kd) sp F) : b.vars.length < F.vs.length := by
 have := h.vpre.length_le
 rw [show (b.var nm kd).vars.length = b.vars.length + 1 from zzB] at this
 exact this
end
section
variable {P : PI} {K Kc : Kt MV} {b b' b1 b2 : BD} {sp sp' sp1 sp2 : List Spec} {tl : Mem} {c c' k u u₁ u₂ u₃ n0 : Nat} {p z s : PV} {l : List PV} {vs : List MV} {d loop : Int} {e : Bool} {t h f : T}
theorem Bi.fin {f : Int} (hb : Bi b sp) : Bi { b with final := f } sp := ⟨hb.nums, hb.spE, hb.cnt, hb.left, hb.vars⟩
noncomputable abbrev hdT (b : BD) (t : T) : T := .blk (.cons (.ex (.shown b.vars.length 12 (numE b))) t)
theorem cK4 (hd : d = 3 - (k : Int)) (hb : Bi b sp) {z : MV -> Mem -> Nat -> Prop}
  (q : ∀ t b' sp' c' u, Sp b sp c b' sp' c' u 18 -> (∀ n0, n0 <= b.vars.length -> Cp k (decide (0 < loop)) n0 b' sp' b.vars.length (6 + (18 + gw k * u)) u (hdT b t)) -> (∀ F, Lt b' sp' F -> b.vars.length < F.vs.length) ->
   ∀ o2 o3 o4, z (.p (bI4 b.vars.length (enc (hdT b t)))) (GB b' ++ [.pl l, o2, o3, o4]) c') : hdlK (Of (Gu P (GBk k))) d loop z (GB b ++ [.pl l]) c := by
 refine hd_1.mpr (dN5 (dV3 (hd_3.mpr ?_)))
 have s0 := (Sp.var (sp := sp) b c "e" 12).trans (Sp.evt _ _)
 refine bF5 aN hd (s0.bi hb) fun t b' sp' c' u s r i => hd_4.mpr ?_
 have hl : ∀ F, Lt b' sp' F -> b.vars.length < F.vs.length := fun F hF => bM2 ((Sp.evt _ 0).lt (s.lt hF))
 have := q t b' sp' (c' + 1) u ((s0.trans (Sp.cost _ _ 1)).ahead (s.trans (Sp.cost b' c' 1)) (by decide)) (fun n0 hn => (dT1 r i (nT hn s0.vlen) hl)) hl
 rw [cC5 hb.vars] at this
 exact this _ _ _
theorem bD8 (hd : d = 3 - (k : Int)) (hb : Bi b sp) {z : MV -> Mem -> Nat -> Prop} (hz : ∀ {b' : BD} {c' : Nat} {l : List PV}, (∀ tl, z (.p (aA1 l)) (GB { b' with final := b'.final - 1 } ++ tl) (c' + 1)) -> finT z (.obj (23 + tl.length)) (GB b' ++ tl ++ [.pl l]) c')
  (q : ∀ t b' sp' c' u, Sp b sp c b' sp' c' u 15 -> Tr k false b b' sp' (18 + gw k * u) u t -> isS t = false -> ∀ tl, z (.p (aA1 (encL t))) (GB b' ++ tl) c') : finK (Of (Gu P (GBk k))) d z (GB b ++ tl) c :=
 fin_1.mpr (bF5 aN hd hb.fin fun t b' sp' c' u s r i => hz (q t _ sp' (c' + 1) u ((Sp.cost b c 1).ahead (s.trans (Sp.cost b' c' 1)) (by decide)) ((Tr.at_ (b := b) r (nR _)).later (Sp.cost b' c' 1)) i))
theorem dU1 (hk : k <= 2) (hd : d = 3 - (k : Int)) (hb : Bi b sp) (q : QP (k + 1) (decide (0 < loop)) b sp c (Zk K)) : runT P (Of (Gu P (GBk k))) "_law_try" [.obj 1, i_ d, i_ loop] K (GB b) c := by
 refine (dV2 ..).mpr (aH6 hb fun r hr => ?_)
 have s0 := Sp.draw (sp := sp) b c
 have blk : ∀ {Kc : Kt MV}, (∀ t b' sp' c' u, Sp b sp c b' sp' c' u 14 -> Bi b' sp' -> Tr k (decide (0 < loop)) b b' sp' (18 + gw k * u) u t -> isS t = false -> Kc (.p (aA1 (encL t))) (GB b' ++ [.pl (encL t)]) c') -> cal (Of (Gu P (GBk k))) "_law_block" [.obj 1, i_ d, i_ loop] (jnK Kc) (GB { b with at_ := b.at_ + 1 }) (c + 1) := fun q =>
  aL3 aN hd hb.draw fun t b' sp' c' u s r i => jn_ok.mpr (q t b' sp' c' u (s0.ahead s (by decide)) (s.bi hb.draw) (Tr.at_ (b := b) r (nR _)) i)
 match r, hr with
 | 0, _ =>
  refine (t_0 ..).mpr (blk fun t b1 sp1 c₁ u₁ s1 hb1 r₁ i1 => cK4 hd hb1 fun t2 b2 sp2 c2 u₂ s2 p2 l2 _ _ _ => aK5 rfl rfl ?_)
  exact q (.try_ b1.vars.length (.blk t) (hdT b1 t2) .nil) b2 sp2 c2 (u₁ + u₂) ((s1.trans s2).more (by decide))
   (bQ4 (u₃ := 0) hk ((aW3 r₁ i1 (nR _)).later s2) (fun F hF D => (r₁.fin F (s2.lt hF)).okT D) (p2 _ s1.vlen) cH3 (fun _ _ _ => trivial) (fun z => absurd (z ▸ hb1.vars) (by decide)) (.inr rfl) (.inl rfl) (.inr ⟨hb1.vars, s1.vlen, l2⟩) (by lia)) rfl
 | 1, _ =>
  refine (t_1 ..).mpr (blk fun t b1 sp1 c₁ u₁ s1 hb1 r₁ i1 => bD8 (tl := [_]) hd hb1 (fun h => fin_2.mpr (h _)) fun t2 b2 sp2 c2 u₂ s2 p2 i2 _ => aK5 rfl rfl ?_)
  exact q (.try_ 0 (.blk t) .nil (.blk t2)) b2 sp2 c2 (u₁ + u₂) ((s1.trans s2).more (by decide))
   (bQ4 (u₂ := 0) (u₃ := u₂) hk ((aW3 r₁ i1 (nR _)).later s2) (fun F hF D => (r₁.fin F (s2.lt hF)).okT D) cH3 (aW3 p2 i2 s1.vlen) (fun F hF D => (p2.fin F hF).okT D) (fun _ => rfl) (.inl rfl) (.inr rfl) (.inl rfl) (by lia)) rfl
 | 2, _ =>
  refine (t_2 ..).mpr (blk fun t b1 sp1 c₁ u₁ s1 hb1 r₁ i1 => cK4 hd hb1 fun t2 b2 sp2 c2 u₂ s2 p2 l2 _ _ _ => bD8 (tl := [_, _, _, _]) hd (s2.bi hb1) (fun h => fin_4.mpr (h _)) fun t3 b3 sp3 c3 u₃ s3 p3 i3 _ => aK5 rfl rfl ?_)
  exact q (.try_ b1.vars.length (.blk t) (hdT b1 t2) (.blk t3)) b3 sp3 c3 (u₁ + u₂ + u₃) (((s1.trans s2).trans s3).more (by decide))
   (bQ4 hk (((aW3 r₁ i1 (nR _)).later s2).later s3) (fun F hF D => (r₁.fin F (s2.lt (s3.lt hF))).okT D) ((p2 _ s1.vlen).later s3) (aW3 p3 i3 (nT s1.vlen s2.vlen)) (fun F hF D => (p3.fin F hF).okT D) (fun z => absurd (z ▸ hb1.vars) (by decide)) (.inr rfl) (.inr rfl) (.inr ⟨hb1.vars, s1.vlen, fun F hF => l2 F (s3.lt hF)⟩) (by lia)) rfl
 | n + 3, hr => exact absurd hr (by lia)
end
section
variable {P : PI} {K Kc : Kt MV} {b b' : BD} {sp sp' : List Spec} {tl : Mem} {c c' k j w u u' v : Nat} {p z s : PV} {l : List PV} {vs : List MV} {d loop : Int} {lp e wd : Bool} {t h f : T} {m : Mem}
theorem el_2 : aF0 .Add (.obj 23) (.obj (23 + [MO.pl [s]].length)) (jnK Kc) (GB b ++ [.pl [s]] ++ [.pl l]) c = Kc (.p (aA1 (s :: l))) (GB b ++ [.pl [s], .pl l, .pl (s :: l)]) (c + 1) := by kernel_rfl
theorem cK9 {nm : String} {kd : Int} {F : Fs} (h : Lt (b.var nm kd) sp F) : F.vs[b.vars.length]? = some (varV b.vars.length (V nm) kd 0) := by
 have := h.vpre
 obtain ⟨r, e⟩ := this
 rw [<- e, zzH (by rw [show (b.var nm kd).vars.length = b.vars.length + 1 from zzB]; exact zzb _)]
 exact zzO
noncomputable abbrev elT (b : BD) (w : Bool) (t : T) : T := .blk (.cons (.ex (.shown b.vars.length (kW w) (numE b))) t)
structure El (k : Nat) (b b' : BD) (sp' : List Spec) (u : Nat) (wd : Bool) (t : T) : Prop where
 r : Tr k true (b.var "v" (kW wd)).evt b' sp' (18 + gw k * u) u t
 i : isS t = false
 lt : ∀ F, Lt b' sp' F -> b.vars.length < F.vs.length /\ F.vs[b.vars.length]? = some (varV b.vars.length (V "v") (kW wd) 0)
theorem bO5 {z : Nat -> Bool -> Kt MV} (hd : d = 3 - (k : Int)) (hb : Bi b sp) (q : ∀ wd t (b₀ b' : BD) sp' c' u, b₀.vars = b.vars -> Sp b sp c b' sp' c' u 20 -> El k b₀ b' sp' u wd t -> ∀ tl, z b₀.vars.length wd (.p (enc (elT b₀ wd t))) (GB b' ++ tl) c') : eltF (Of (Gu P (GBk k))) b c d z := by
 refine aH6 hb fun r hr => ?_
 have go : ∀ wd, cal (Of (Gu P (GBk k))) "_law_block" [.obj 1, i_ d, i_ 1] (fun v => aF0 .Add (.obj 23) v (jnK (z b.vars.length wd))) (GB ({ b with at_ := b.at_ + 1 }.var "v" (kW wd)).evt ++ [.pl [aH7 (eAsg (kW wd) (aA3 (kW wd) (numE b)) (eLoc (kW wd) b.vars.length))]]) (c + 1 + 1 + 1 + 1 + 1) := fun wd => by
  have s0 := (Sp.var (sp := sp) { b with at_ := b.at_ + 1 } (c + 1) "v" (kW wd)).trans (Sp.evt _ _)
  refine bF5 aN hd (s0.bi hb.draw) fun t b' sp' c' u s r i => el_2.mpr ?_
  exact q wd t { b with at_ := b.at_ + 1 } b' sp' (c' + 1) u rfl ((((Sp.draw b c).trans s0).trans (Sp.cost _ _ 1)).ahead (s.trans (Sp.cost b' c' 1)) (by decide)) ⟨r, i, fun F hF => have h := (Sp.evt _ 0).lt (s.lt hF); ⟨bM2 h, cK9 h⟩⟩ _
 exact brd (fun _ => go false) fun _ => go true
variable (hk : k <= 2)
include hk
theorem cI2 {src : Option Nat} (E : El k b b' sp' u wd t) (hs : ∀ r, src = some r -> r < 4) (hv : 2 <= b.vars.length) : Tr (k + 1) lp b b' sp' (6 + gw (k + 1) * (u + 1)) (u + 1) (.arr b.vars.length wd src (elT b wd t)) where
 ab m hm := ⟨hm, trivial, E.r.ab m (zzF hm (((Sp.var (sp := []) b 0 "v" (kW wd)).trans (Sp.evt _ _)).vlen))⟩
 w := by have := gw1 (u := u) hk; have := E.r.w; show 27 + 3 * (26 + (6 + W t)) <= _; lia
 nn := n1 (bA E.r.nn)
 kb := aS4 E.r.kb
 dep := nT (zzS (aP2 E.r.dep) 22) (by lia)
 fin F hF := by
  have f := E.r.fin F hF
  have h := E.lt F hF
  exact ⟨⟨rfl, hs, rfl, rfl, E.i, trivial, f.ok⟩, fun D => ⟨hv, .head _, f.okT _⟩, fun n hn => ⟨Nat.le_of_lt_succ (zzF h.1 hn), Nat.le_of_lt_succ (zzF h.1 hn), f.vk n hn⟩, ⟨_, h.2⟩, trivial, f.vd⟩
theorem dC4 {sort idx : Nat} {s : Spec} (E : El k b b' sp' u wd t) (hs : ∀ F, Lt b' sp' F -> F.sp[idx]? = some s) (ho : okSp sort s = true) (hc : s.count <= 3) (hv : 2 <= b.vars.length) : Tr (k + 1) lp b b' sp' (6 + gw (k + 1) * (u + 1)) (u + 1) (.pat b.vars.length wd sort idx (elT b wd t)) where
 ab m hm := ⟨hm, trivial, E.r.ab m (zzF hm (((Sp.var (sp := []) b 0 "v" (kW wd)).trans (Sp.evt _ _)).vlen))⟩
 w := by have := gw1 (u := u) hk; have := E.r.w; show 64 + 3 * (19 + (6 + W t)) <= _; lia
 nn := n1 (bA E.r.nn)
 kb := aS4 E.r.kb
 dep := nT (zzS (aP2 E.r.dep) 32) (by lia)
 fin F hF := by
  have f := E.r.fin F hF
  have h := E.lt F hF
  exact ⟨⟨rfl, rfl, rfl, E.i, trivial, f.ok⟩, fun D => ⟨hv, ⟨s, hs F hF, ho, hc⟩, .head _, f.okT _⟩, fun n hn => ⟨Nat.le_of_lt_succ (zzF h.1 hn), Nat.le_of_lt_succ (zzF h.1 hn), f.vk n hn⟩, ⟨_, h.2⟩, trivial, f.vd⟩
theorem dP (hd : d + 1 = 3 - (k : Int)) (hb : Bi b sp) (q : QP (k + 1) lp b sp c (Zk K)) : runK P (Of (Gu P (GBk k))) "_law_array" [.obj 1, i_ d] K (GB b) c :=
 (dA5 ..).mpr (aH6 hb fun r hr => brd
  (fun _ => aH6 hb.draw fun r hr => bO5 hd hb.draw.draw fun wd t b₀ b' sp' c' u hv s E tl => aK5 rfl rfl
   (q (.arr b₀.vars.length wd (some r) (elT b₀ wd t)) b' sp' c' u (((Sp.draw b c).trans (Sp.draw _ _)).ahead s (by decide)) ((cI2 hk E (fun r' z => by cases z; lia) (hv ▸ hb.vars)).at_ (hv ▸ nR _)) rfl))
  fun _ => bO5 hd hb.draw fun wd t b₀ b' sp' c' u hv s E tl => aK5 rfl rfl
   (q (.arr b₀.vars.length wd none (elT b₀ wd t)) b' sp' c' u ((Sp.draw b c).ahead s (by decide)) ((cI2 (src := none) hk E (fun r' z => (nomatch z)) (hv ▸ hb.vars)).at_ (hv ▸ nR _)) rfl))
noncomputable def bW7 : T -> Bool
 | .pat _ _ _ _ _ => true
 | _ => false
omit hk in
theorem bN1 (h : bW7 t = true) : isS t = true := by cases t <;> first | rfl | exact nomatch h
noncomputable def QPt (n j : Nat) (lp : Bool) (b : BD) (sp : List Spec) (c : Nat) (Z : T -> BD -> List Spec -> Nat -> Nat -> Prop) : Prop := ∀ t b' sp' c' u, Sp b sp c b' sp' c' u n -> Tr j lp b b' sp' (6 + gw j * (u + 1)) (u + 1) t -> bW7 t = true -> Z t b' sp' c' u
theorem aK4 {s : Nat} {fourth : Nat -> PV} {dsp : Nat -> Bool} (hf : ∀ u, fourth u = .bool (dsp u)) (hs : ∀ u : Nat, (dsp u || Nat.beq s 1) = true) (hd : d + 1 = 3 - (k : Int)) (hb : Bi b sp) (q : QPt 60 (k + 1) lp b sp c (Zk K)) : patF b (Of (Gu P (GBk k))) K c s fourth d := by
 refine aH6 hb fun n hn => aH6 hb.draw fun u hu => ?_
 have go : ∀ nE, (!nE || isC s) = true -> eltF (Of (Gu P (GBk k))) (({ b with at_ := b.at_ + 1 + 1 } : BD).spec (.tup [pn n, .bool (decide ((u : Int) = 5)), .bool nE, fourth u])) (c + 1 + 1 + 1) (d + 1) (patK K s b.specs.length) := fun nE hE => by
  rw [hf]
  have hc : (⟨n, decide ((u : Int) = 5), nE, dsp u⟩ : Spec).count <= 3 := by show n <= 3; lia
  have s0 := ((Sp.draw (sp := sp) b c).trans (Sp.draw _ _)).trans (Sp.spec _ _ hc)
  refine bO5 hd (s0.bi hb) fun wd t b₀ b' sp' c' u' hv s1 E tl => aK5 rfl rfl ?_
  refine q (.pat b₀.vars.length wd s b.specs.length (elT b₀ wd t)) b' sp' c' u' (s0.ahead s1 (by decide)) ((dC4 hk E (fun F hF => ?_) ?_ hc (hv ▸ hb.vars)).at_ (hv ▸ nR _)) rfl
  ·have h := (s1.lt hF).pre
   obtain ⟨r, e⟩ := h
   rw [<- e, hb.spE, zzZ, zzH (by rw [zzB]; exact zzb _)]
   exact zzO
  ·show ((!nE || isC s) && (dsp u || Nat.beq s 1) && Nat.blt n 1000) = true
   rw [hE, hs, show Nat.blt n 1000 = true from zzI (by lia)]; rfl
 exact brd (fun _ => go (isC s) (by cases isC s <;> rfl)) fun h => go (decide ((u : Int) = 4)) (by rw [decide_eq_false h]; rfl)
theorem cJ5 {r : Nat} (hr : r < 6) (hd : d + 1 = 3 - (k : Int)) (hb : Bi b sp) (q : QPt 60 (k + 1) lp b sp c (Zk K)) : runK P (Of (Gu P (GBk k))) "_law_pattern" [.obj 1, i_ d, i_ r] K (GB b) c := by
 match r, hr with
 | 0, _ => exact (dH9 ..).mpr (aK4 hk (dsp := fun _ => true) (fun _ => rfl) (fun _ => rfl) hd hb q)
 | 1, _ => exact (dH1 ..).mpr (aK4 hk (dsp := fun u => !decide ((u : Int) = 3)) (fun _ => rfl) (fun u => Bool.or_true _) hd hb q)
 | 2, _ => exact (dC1 ..).mpr (aK4 hk (dsp := fun _ => true) (fun _ => rfl) (fun _ => rfl) hd hb q)
 | 3, _ => exact (dD9 ..).mpr (aK4 hk (dsp := fun _ => true) (fun _ => rfl) (fun _ => rfl) hd hb q)
 | 4, _ => exact (dJ1 ..).mpr (aK4 hk (dsp := fun _ => true) (fun _ => rfl) (fun _ => rfl) hd hb q)
 | 5, _ => exact (dQ2 ..).mpr (aK4 hk (dsp := fun _ => true) (fun _ => rfl) (fun _ => rfl) hd hb q)
 | n + 6, h => exact absurd h (by lia)
theorem bX7 {wu : Nat} (hd : d + 1 = 3 - (k : Int)) (hb : Bi b sp) (q : QP (k + 1) (decide (0 < loop)) b sp c (Zk K)) : cal (Of (Gu P (GBk k))) "_law_block" [.obj 1, i_ (d + 1), i_ loop] (jnK fun t => tupV [i_ 15, .p (pn b.vars.length), .p (aA3 (kUse wu) (fUse wu)), .p (aG9 0 (eLoc (kUse wu) b.vars.length) (kUse wu) (mUse wu) (vUse wu)), t] (lvB K)) (GB ({ b with at_ := b.at_ + 1 }.var "u" (kUse wu))) (c + 1 + 1 + 1) := by
 have s0 := (Sp.draw (sp := sp) b c).trans (Sp.var { b with at_ := b.at_ + 1 } (c + 1) "u" (kUse wu))
 refine aL3 aN hd (s0.bi hb) fun t b' sp' c' u s r i => jn_ok.mpr (aK5 rfl rfl ?_)
 have hl : b.vars.length < (({ b with at_ := b.at_ + 1 } : BD).var "u" (kUse wu)).vars.length := by rw [show (({ b with at_ := b.at_ + 1 } : BD).var "u" (kUse wu)).vars.length = b.vars.length + 1 from zzB]; exact zzb _
 exact q (.usg wu b.vars.length (.blk t)) b' sp' c' u (s0.ahead s (by decide))
  {ab := fun m hm => ⟨hm, r.ab m (zzF hm s0.vlen)⟩
   w := by have := gw1 (u := u) hk; have := r.w; show 32 + W t <= _; lia
   nn := n1 r.nn
   kb := r.kb
   dep := d1 (a := 22) r.dep (by decide)
   fin := fun F hF => by
    have f := r.fin F hF
    have h := s.lt hF
    have h1 := bM2 h
    have h2 := cK9 h
    exact ⟨⟨rfl, i, f.ok⟩, fun D => ⟨hb.vars, r.ab _ hl, f.okT _⟩, fun n hn => ⟨Nat.le_of_lt_succ (zzF h1 hn), f.vk n hn⟩, ⟨_, h2⟩, f.vd⟩ } rfl
theorem dK4 (hd : d + 1 = 3 - (k : Int)) (hb : Bi b sp) (q : QP (k + 1) (decide (0 < loop)) b sp c (Zk K)) : runK P (Of (Gu P (GBk k))) "_law_using" [.obj 1, i_ d, i_ loop] K (GB b) c :=
 (dB0 ..).mpr (aH6 hb fun r hr => brd
  (fun h => match r, h with
   | 0, _ => bX7 (wu := 0) hk hd hb q
   | 1, _ => bX7 (wu := 1) hk hd hb q
   | n + 2, h => absurd h (by lia))
  fun _ => bX7 (wu := 2) hk hd hb q)
end
section
variable {P : PI} {B : Orc} {K : Kt MV} {b b' : BD} {sp sp' : List Spec} {c c' k j u : Nat} {p x z s : PV} {d loop : Int} {lp : Bool} {t h f : T}
theorem ren1 : ([.obj 1, i_ d] : List MV).map (renV (List.range 23)) = [.obj 1, i_ d] := by kernel_rfl
theorem lv0 : lvB K (.p p) (GB b) c = K (.p p) (GB b) c := by kernel_rfl
theorem QP.of (q : QP j lp b sp c (Zk K)) : QP j lp b sp c (Zk (OfC (lvB K) b [] c)) := fun t b' sp' c' u s r i => aU8 s.lo (lv0.mpr (q t b' sp' c' u s r i))
theorem aH3 {r : Nat} (hb : Bi b sp) (hr : r = 6 ∨ r = 7 ∨ r = 8 ∨ r = 10 ∨ r = 11 ∨ r = 12) (q : QP j (decide (0 < loop)) b sp c (Zk K)) : ndT P (Of (Gp P B)) 3 r d loop K (GB b) c := by
 rcases hr with rfl | rfl | rfl | rfl | rfl | rfl
 ·exact (n_6 ..).mpr (brd (fun _ => nd_6 hb q) fun _ => bG5 q)
 ·exact (n_7 ..).mpr (brd (fun h => nd_7 hb h q) fun _ => bG5 q)
 ·exact (n_8 ..).mpr (brd (fun h => nd_8 h q) fun _ => bG5 q)
 ·exact (n_10 ..).mpr (eB9 hb q)
 ·exact (n_11 ..).mpr (bG5 q)
 ·exact (n_12 ..).mpr (dZ4 hb q)
theorem cY5 {r : Nat} (hk : k <= 2) (hd : d + 1 = 3 - (k : Int)) (hb : Bi b sp) (hr : r < 14) (q : QP (k + 1) (decide (0 < loop)) b sp c (Zk K)) : ndT P (Of (Gp P (GBk k))) 3 r d loop K (GB b) c := by
 match r, hr with
 | 0, _ => exact (n_0 ..).mpr (aH6 hb fun r hr => aN1 aK7 (gp_pat.mpr ⟨rfl, cJ5 hk (by lia) hd hb.draw fun t b' sp' c' u s r i => aU8 s.lo (lv0.mpr (q t b' sp' c' u ((Sp.draw b c).ahead s (by decide)) (r.at_ (nR _)) (bN1 i)))⟩))
 | 1, _ => exact (n_1 ..).mpr (aN1 ren1 (gp_arr.mpr ⟨rfl, dP hk hd hb q.of⟩))
 | 2, _ => exact (n_2 ..).mpr (aN1 aK7 (gp_usg.mpr ⟨rfl, dK4 hk hd hb q.of⟩))
 | 3, _ => exact (n_3 ..).mpr (nd_3 hk hd hb q)
 | 4, _ => exact (n_4 ..).mpr (nd_4 hk hd hb q)
 | 5, _ => exact (n_5 ..).mpr (nd_5 hk hd hb q)
 | 6, _ => exact aH3 (r := 6) hb (by decide) q
 | 7, _ => exact aH3 (r := 7) hb (by decide) q
 | 8, _ => exact aH3 (r := 8) hb (by decide) q
 | 9, _ => exact (n_9 ..).mpr (nd_9 hk hd hb q)
 | 10, _ => exact aH3 (r := 10) hb (by decide) q
 | 11, _ => exact aH3 (r := 11) hb (by decide) q
 | 12, _ => exact aH3 (r := 12) hb (by decide) q
 | 13, _ => exact (n_13 ..).mpr (aN1 aK7 (gp_try.mpr ⟨rfl, dU1 hk hd hb q.of⟩))
 | n + 14, h => exact absurd h (by lia)
theorem Sp.node {a n : Nat} (h : 0 <= b.left - 1) (hn : n <= 61) (s : Sp { b with left := b.left - 1, at_ := a } sp (c + 1 + 1) b' sp' c' u n) : Sp b sp c b' sp' c' (u + 1) 3 :=
 ⟨s.nums, s.pre, s.spE, s.cnt, s.vars, Int.le_trans s.left (by show b.left - 1 <= b.left; lia), by have : b'.left.toNat + u = (b.left - 1).toNat := s.pot; lia, by have := s.lo; lia, by have := s.hi; lia, s.evm, by have : b'.event + (c + 1 + 1) <= b.event + c' := s.ev; lia, by have := s.len; lia, by have : b'.vars.length + (c + 1 + 1) <= b.vars.length + c' := s.vb; lia⟩
theorem Bi.node {a : Nat} (hb : Bi b sp) : Bi { b with left := b.left - 1, at_ := a } sp := ⟨hb.nums, hb.spE, hb.cnt, Int.le_trans (by show b.left - 1 <= b.left; lia) hb.left, hb.vars⟩
theorem QN.part {a : Nat} (h : 0 <= b.left - 1) (q : QN j lp b sp c fun t b' _ c' _ => K (.p (enc t)) (GB b') c') : QP j lp { b with left := b.left - 1, at_ := a } sp (c + 1 + 1) (Zk K) := fun t b' sp' c' u s r i => q t b' sp' c' (u + 1) (s.node h (nR _)) (r.at_ (nR _)) i
theorem bW8 {a : Nat} (h : b.left - 1 < 0) (q : QN j lp b sp c fun t b' _ c' _ => K (.p (enc t)) (GB b') c') : sayK (Of (Gp P B)) { b with left := b.left - 1, at_ := a } K (c + 1 + 1) := by
 refine bO9 ((lv0 (b := BD.evt _)).mpr ?_)
 have s : Sp b sp c (BD.evt { b with left := b.left - 1, at_ := a }) sp (c + 1 + 1 + 1) 0 3 := ((Sp.none b c h).trans (Sp.cost (a := a) (f := b.final) { b with left := b.left - 1 } (c + 1) 1)).trans (Sp.evt _ _)
 exact q (.ex (.say (numE b))) (BD.evt { b with left := b.left - 1, at_ := a }) sp (c + 1 + 1 + 1) 0 s ((tr_say (b := { b with left := b.left - 1, at_ := a })).more (nA _ _) (zzN _)) rfl
theorem cR5 (hk : k <= 2) (hd : d + 1 = 3 - (k : Int)) (hb : Bi b sp) (q : QN (k + 1) (decide (0 < loop)) b sp c fun t b' _ c' _ => K (.p (enc t)) (GB b') c') : runN P (Of (Gp P (GBk k))) "_law_node" [.obj 1, i_ d, i_ loop] K (GB b) c := by
 refine (cJ6 ..).mpr (aH6 ⟨hb.nums, hb.spE, hb.cnt, hb.node.left, hb.vars⟩ fun r hr => brd (fun h => (n_11 ..).mpr (bW8 h q)) fun h => ?_)
 have h : 0 <= b.left - 1 := Int.not_lt.mp h
 exact decF (by lia) (cY5 hk hd hb.node (by lia) (q.part h))
theorem cA4 (hb : Bi b sp) (q : QN 0 (decide (0 < loop)) b sp c fun t b' _ c' _ => K (.p (enc t)) (GB b') c') : runN P (Of (Gp P B)) "_law_node" [.obj 1, i_ 3, i_ loop] K (GB b) c := by
 refine (cJ6 ..).mpr (aH6 ⟨hb.nums, hb.spE, hb.cnt, hb.node.left, hb.vars⟩ fun r hr => brd (fun h => (n_11 ..).mpr (bW8 h q)) fun h => ?_)
 have h : 0 <= b.left - 1 := Int.not_lt.mp h
 have z := aH3 (P := P) (B := B) (d := 3) (r := 11) hb.node (by decide) (q.part (a := b.at_ + 1) h)
 exact brd (fun _ => brd (fun _ => z) fun _ => brd (fun _ => z) fun _ => brd (fun _ => z) fun _ => aH3 hb.node (by lia) (q.part h)) fun x => absurd (show (2 : Int) < 3 by decide) x
end
section
variable {P : PI} {G : Orc} {K : Kt MV} {b : BD} {c k j v : Nat} {p x y : PV} {l : List PV} {e : Bool} {h f : T} {m : Mem}
theorem dK8 {st n : MV} : run P HX G 0 xDr [st, n] K m c = getI st (.p kAt) (fun a => aF0 .Add a (i_ 1) (fun a' => setI st (.p kAt) a' (fun _ => getI st (.p kNm) (fun l => aP l (fun ln m c => int2 a ln fun i j => br (decide (i < j)) (getI st (.p kNm) (fun l => getI l a (fun x => aF0 .Mod x n K)) m c) (K (i_ 0) m c)))))) m c := by kernel_rfl
theorem bN0 {i : Nat} {k : PV} {es : List (PV × MV)} {x : MV} (h : m[i]? = some (.dict es)) (hk : aA8 k es = true) (hx : aA9 k es = some x) (q : K x m c) : getI (.obj i) (.p k) K m c := by
 unfold getI; show (match m[i]? with | some (.pl l) => _ | some (.list l) => _ | some (.dict es) => _ | _ => False)
 rw [h]; show som (aA9 k es) fun x => chk (aA8 k es) (K x m c)
 rw [hx]; exact aI1 hk q
theorem add_i {a b : Int} : aF0 .Add (i_ a) (i_ b) K m c = K (i_ (a + b)) m c := by kernel_rfl
theorem mod_i {a b : Int} : aF0 .Mod (i_ a) (i_ b) K m c = chk (decide (0 < b)) (K (i_ (a.fmod b)) m c) := by kernel_rfl
theorem dS1 {i : Nat} {k : PV} {v : MV} {es : List (PV × MV)} {K : Kt Unit} (h : m[i]? = some (.dict es)) (hk : aA8 k es = true) (q : K () (m.set i (.dict (dput k v es))) (c + 1)) : setI (.obj i) (.p k) v K m c := by
 unfold setI; show (match m[i]? with | some (.pl l) => _ | some (.dict es) => _ | _ => False)
 rw [h]; exact aI1 hk q
theorem dQ7 {i : Nat} (h : m[i]? = some (.pl l)) (q : K (i_ l.length) m c) : aP (.obj i) K m c := by
 unfold aP; show (match m[i]? with | some (.pl l) => _ | some (.list l) => _ | _ => False)
 rw [h]; exact q
theorem cL3 {i n : Nat} {x : PV} (h : m[i]? = some (.pl l)) (hn : n < 1000000) (hx : l[n]? = some x) (q : K (.p x) m c) : getI (.obj i) (i_ n) K m c := by
 unfold getI; show (match m[i]? with | some (.pl l) => _ | some (.list l) => _ | some (.dict es) => _ | _ => False)
 rw [h]
 show chk (Nat.blt n 1000000) (som l[n]? _)
 rw [hx]; exact aI1 (zzI hn) q
theorem cB5 {i : Nat} {x : PV} (h : bJ0 l = true) (q : l[i]? = some x) : ∃ y, x = .int y := by
 induction l generalizing i with
 | nil => exact nomatch q
 | cons a l ih =>
  cases a with
  | int a => cases i with
   | zero => exact ⟨a, (zzC q).symm⟩
   | succ i => exact ih h q
  | _ => exact nomatch h
theorem cC4 {i : Nat} {n : MV} (e : dU9 i n K m c) : run P HX G 0 xDr [.obj i, n] K m c := by
 refine aZ6 e fun es h e => aA0 e fun hk e => aB e fun a ha e => aA5 e fun a ea e => aE1 e fun a ea' e => aA5 e fun n en e => aE1 e fun k ek e => aA0 e fun hk2 e => aB e fun l hl e => aQ4 e fun j ej e => aC9 e fun l hj e => aA0 e fun hq ee => ?_
 subst ea ea' en ek ej
 have hq := aA hq fun q1 q => aA q fun q2 q => aA q fun q3 q4 => (⟨of_decide_eq_true q1, of_decide_eq_true q2, q3, zzU q4⟩ : 0 <= a /\ 0 < k /\ bJ0 l = true /\ l.length <= 1000)
 have hi : i < m.length := (zzA.mp h).1
 rw [dK8]
 refine bN0 h hk ha ?_
 refine add_i.mpr (dS1 h hk ?_)
 have h2 : (m.set i (.dict (dput kAt (i_ (a + 1)) es)))[i]? = some (.dict (dput kAt (i_ (a + 1)) es)) := zze hi
 refine bN0 h2 hk2 hl ?_
 refine dQ7 hj ?_
 refine brd (fun hlt => bN0 h2 hk2 hl ?_) fun _ => ee 0 hq.2.1
 have hlt : a < l.length := hlt
 obtain ⟨a, rfl⟩ : ∃ a' : Nat, a = a' := ⟨a.toNat, by lia⟩
 have hx := zzT (l := l) (i := a) (by lia)
 refine ex1 (cB5 hq.2.2.1 hx) fun y hy => ?_
 rw [hy] at hx
 refine cL3 hj (by lia) hx (mod_i.mpr (aI1 (decide_eq_true hq.2.1) ?_))
 have := ee (y.fmod k).toNat
 rw [Int.toNat_of_nonneg (Int.fmod_nonneg_of_pos y hq.2.1)] at this
 exact this (Int.fmod_lt_of_pos y hq.2.1)
variable {C : Cx} {N : Fns} {dd : Nat}
theorem aM8 (S : StaF C (ext P) N) (hG : Snd C N dd G) : Snd C N (dd + 1) (Od G) := by
 intro x f args K m c hK e
 unfold Od at e
 cases hf : f == xDr with
 | false => rw [hf] at e; exact (hG.mono (Nat.le_succ dd)) x f args K m c hK e
 | true =>
  rw [hf] at e
  have hf := eq_of_beq hf
  subst hf
  revert e
  cases args with
  | nil => exact fun e => nO e
  | cons a r => cases a with
   | obj i => cases r with
    | nil => exact fun e => nO e
    | cons n r => cases r with
     | nil => exact fun e => aA0 e fun hx e => eq_of_beq hx ▸ aH0 S hG hK (cC4 e)
     | cons => exact fun e => nO e
   | _ => exact fun e => nO e
end
section
variable {P : PI} {G : Orc} {K : Kt MV} {Kf : Kt (Flw × Loc)} {b b' b1 b2 : BD} {sp sp' sp1 sp2 : List Spec} {c c' w w' u u' u₁ u₂ v n k : Nat} {x : PV} {l : List PV} {d loop : Int} {lp : Bool} {t h f : T} {m : Mem}
theorem bk_0 {r : Loc} : bkK K (.next, locK d loop r) (GB b ++ [.pl l]) c = K (.obj 23) (GB b ++ [.pl l]) c := by kernel_rfl
theorem nod_1 {v : MV} : nodK P G d loop v Kf (GB b ++ [.pl l]) c = cal G "_law_node" [.obj 1, i_ d, i_ loop] (fun x => runC (ext P) HK.fz (inl (ext P) HK (Od G) 4) (.lappend 23) [x] fun _ => Kf (.next, locK d loop [(V "turn", v)])) (GB b ++ [.pl l]) c := by kernel_rfl
theorem nod_2 {cl : Orc} {Kf : Kt MV} : runC (ext P) HK.fz cl (.lappend 23) [.p x] Kf (GB b ++ [.pl l]) c = Kf n_ (GB b ++ [.pl (l ++ [x])]) (c + 1) := by kernel_rfl
theorem tr_nil : Tr k lp b b' sp 0 0 .nil := ⟨fun _ _ => trivial, nR _, nR _, zzN _, zzN _, fun _ _ => ⟨trivial, fun _ => trivial, fun _ _ => trivial, trivial⟩⟩
theorem cZ2 (i : isS t = true) (i' : isS f = false) (r : Tr k lp b b1 sp1 w u t) (s : Sp b1 sp1 c b' sp' c' u' n) (r' : Tr k lp b1 b' sp' w' u₂ f) (h : b.vars.length <= b1.vars.length) : Tr k lp b b' sp' (w + w') (u + u₂) (.cons t f) :=
 ⟨fun m hm => ⟨r.ab m hm, r'.ab m (zzF hm h)⟩, Nat.add_le_add r.w r'.w, Nat.add_le_add r.nn r'.nn, zzW.mpr ⟨r.kb, r'.kb⟩, zzW.mpr ⟨r.dep, r'.dep⟩, fun F hF => by
  have f := r.fin F (s.lt hF)
  have f' := r'.fin F hF
  exact ⟨⟨i, i', f.ok, f'.ok⟩, fun D => ⟨f.okT D, f'.okT D⟩, fun n hn => ⟨f.vk n hn, f'.vk n hn⟩, f.vd, f'.vd⟩⟩
theorem cU3 (hd : d = 3 - (k : Int)) (n : Nat) : ∀ {p : Nat} {b sp c l r}, (r = [] ∨ ∃ v, r = [(V "turn", v)]) -> Bi b sp ->
  (∀ t b' sp' c' u, Sp b sp c b' sp' c' u (4 * n) -> Tr k (decide (0 < loop)) b b' sp' (6 * n + gw k * u) u t -> isS t = false -> K (.obj 23) (GB b' ++ [.pl (l ++ encL t)]) c') ->
  forL (bkF P (Of (GNd k))) (bkK K) ((List.range' p n).map fun (i : Nat) => i_ i) (locK d loop r) (GB b ++ [.pl l]) c := by
 induction n with
 | zero =>
  intro p b sp c l r _ hb q
  have : K (.obj 23) (GB b ++ [.pl (l ++ [])]) c := q .nil b sp c 0 (Sp.refl b c) (tr_nil.more (zzN _) (nR _)) rfl
  rw [List.append_nil] at this
  exact bk_0.mpr this
 | succ n ih =>
  intro p b sp c l r hr hb q
  rw [aK2]
  have go : nodK P (Of (GNd k)) d loop (i_ p) (turn (bkK K) (forL (bkF P (Of (GNd k))) (bkK K) ((List.range' (p + 1) n).map fun (i : Nat) => i_ i))) (GB b ++ [.pl l]) c := by
   refine nod_1.mpr (bJ7 aK7 ⟨rfl, rfl, b, sp, d, loop, rfl, hd, rfl, hb, fun t b1 sp1 c₁ u₁ s1 r₁ i1 => aM9 s1.lo (nod_2.mpr ?_)⟩)
   refine ih (.inr ⟨_, rfl⟩) (s1.bi hb) fun t2 b2 sp2 c2 u₂ s2 r₂ i2 => ?_
   rw [List.append_assoc]
   refine q (.cons t t2) b2 sp2 c2 (u₁ + u₂) (((s1.trans (Sp.cost b1 c₁ 1)).trans s2).more (by lia)) ((cZ2 i1 i2 r₁ s2 r₂ s1.vlen).more ?_ (nR _)) rfl
   rw [Nat.mul_add]; lia
  refine hr.elim (fun e => ?_) fun e => ex1 e fun v e => ?_
  ·subst e; exact (cU8 ..).mpr go
  ·subst e; exact (cX ..).mpr go
theorem cB8 (hd : d = 3 - (k : Int)) (hb : Bi b sp) (q : QB k (decide (0 < loop)) b sp c fun t b' _ c' _ => K (.obj 23) (GB b' ++ [.pl (encL t)]) c') : runK P (Of (GNd k)) "_law_block" [.obj 1, i_ d, i_ loop] K (GB b) c := by
 rw [cL9]
 refine aI1 hb.nums fun r hr => ?_
 rw [bR3]
 refine aI1 (zzI (by lia)) ?_
 show forV _ (.rng r) _ _ _ _
 rw [bQ0, List.range_eq_range']
 refine cU3 hd r (.inl rfl) hb.draw fun t b' sp' c' u s r₁ i => q t b' sp' c' u ((Sp.draw b c).ahead s (by lia)) ((Tr.at_ (b := b) r₁ (nR _)).more (by lia) (nR _)) i
end
section
variable {C : Cx} {N : Fns} {P : PI} {D k : Nat} {B : Orc}
theorem bE9 : Snd C N 0 G0 := fun _ _ _ _ _ _ _ e => e.elim
theorem aD8 {d d' : Nat} {x f : Str} {args : List MV} {K : Kt MV} {m : Mem} {c : Nat} (h : d <= d') (z : c <= bigN /\ Good C N d x f args K m c) : c <= bigN /\ Good C N d' x f args K m c := ⟨z.1, fun a ρ s A vals R ha hR => z.2 a ρ s A vals R ha (dH h hR)⟩
theorem bV7 (S : StaF C (ext P) N) {f : Str} {args : List MV} {K : Kt MV} {m : Mem} {c : Nat} (hK : Bd K) (e : run P HB (Od G0) 3 f args K m c) : c <= bigN /\ Good C N (D + 5) (V "") f args K m c :=
 aD8 (by lia) (aH0 (d := 1) (n := 3) S (aM8 S bE9) hK e)
theorem cK5 (S : StaF C (ext P) N) (hB : Snd C N D B) : Snd C N (D + 5) (Gu P B) := by
 intro x f args K m c hK e0
 refine br_e e0 (fun _ e => aD8 (nA D 5) (hB x f args K m c hK e)) fun _ e => ?_
 obtain ⟨rfl, e⟩ := e
 exact bV7 S hK e
theorem cL5 (S : StaF C (ext P) N) (hB : Snd C N D B) : Snd C N (D + 11) (Gp P B) := by
 intro x f args K m c hK e0
 refine br_e e0 (fun _ e => aD8 (nA D 11) (hB x f args K m c hK e)) fun _ e => ?_
 obtain ⟨rfl, e⟩ := e
 have U := aM8 S (aK0 (cK5 S hB))
 exact br_e e (fun _ e => aH0 (n := 4) S U hK e) fun _ e => br_e e (fun _ e => aD8 (by lia) (bV7 (D := D) S hK e)) fun _ e => aH0 (n := 4) S U hK e
theorem aN2 (S : StaF C (ext P) N) (h : Snd C N D (GNd k)) : Snd C N (D + 6) (GBk k) := by
 intro x f args K m c hK e
 obtain ⟨rfl, rfl, b, sp, d, loop, rfl, hd, rfl, hb, q⟩ := e
 exact aH0 (n := 4) S (aM8 S (aK0 h)) hK (cB8 hd hb q)
theorem aS (S : StaF C (ext P) N) (k : Nat) : k <= 3 -> Snd C N (23 * k + 17) (GNd k) := by
 induction k with
 | zero =>
  intro _ x f args K m c hK e
  obtain ⟨rfl, rfl, b, sp, d, loop, rfl, rfl, rfl, hb, q⟩ := e
  exact aH0 (n := 4) S (aM8 S (aK0 (cL5 S bE9))) hK (cA4 hb q)
 | succ k ih =>
  intro hk x f args K m c hK e
  have hk := zzK hk
  have B := aN2 S (ih (Nat.le_succ_of_le hk))
  obtain ⟨rfl, rfl, b, sp, d, loop, rfl, hd, rfl, hb, q⟩ := e
  exact aD8 (by lia) (aH0 (n := 4) S (aM8 S (aK0 (cL5 S B))) hK (cR5 hk (by lia) hb q))
end
section
structure LD where
 b : BD
 rest : List PV
 labels : Nat
 out : List PV
 targets : List PV
noncomputable abbrev lwV : MV := .inst 24 (V "Low")
noncomputable def lwA (labels out : Nat) : MO := .attrs [sE "unit" (.inst 5 (V "Unit")), sE "store" (.inst 8 (V "Store")), sE "kt" (.inst 9 (V "KindTable")), sE "fn" (.inst 7 (V "Fn")), sE "out" (.obj out), sE "labels" (i_ labels), sE "targets" (.obj 26), sE "exprs" (.obj 27), sE "stmts" (.obj 28), sE "spiller" (.inst 29 (V "Spiller"))]
noncomputable def ruleN : List (Int × Nat × Str) := [(10, 30, V "LowBreak"), (11, 31, V "LowContinue"), (5, 32, V "LowWhile"), (6, 33, V "LowDo"), (7, 34, V "LowFor"), (8, 35, V "LowForeach"), (3, 36, V "LowBlock"), (4, 37, V "LowIf"), (14, 38, V "LowTry"), (15, 39, V "LowUsing")]
noncomputable def LM (x : LD) (o : Nat) (tl : Mem) : Mem := GB x.b ++ (.pl x.rest :: lwA x.labels o :: .pl x.out :: .pl x.targets :: .dict [] :: .dict (ruleN.map fun e => (pi e.1, MV.inst e.2.1 e.2.2)) :: .attrs [] :: .attrs [] :: .attrs [] :: .attrs [] :: .attrs [] :: .attrs [] :: .attrs [] :: .attrs [] :: .attrs [] :: .attrs [] :: .attrs [] :: tl)
noncomputable def LB (x : LD) : Mem := LM x 25 []
noncomputable def HA : How where
 stop c f := (c == V "Low" && f == V "stmt") || (c == V "" && (f == V "low_inside" || f == V "low_block" || f == V "local_at" || f == V "low_rounds" || f == V "low_over_array" || f == V "low_over_pattern" || f == V "is_open"))
 gc _ := true
 fz x := x == V "Var"
noncomputable def HFo : How where
 stop c f := c == V "" && (f == V "low_inside")
 gc _ := true
 fz x := x == V "Var"
noncomputable def HS : How where
 stop c f := f == V "low"
 gc _ := true
 fz x := x == V "Var"
@[irreducible] noncomputable def runM (P : PI) (H : How) (G : Orc) (n : Nat) (x f : Str) (args : List MV) : PT MV := fun K m c => som ((ext P).fn x f) fun fi => cD8 (ext P) H.fz (H.gc f) (inl (ext P) H G n) fi args K m c
@[irreducible] noncomputable def rst (P : PI) (H : How) (G : Orc) (n : Nat) (x f : Str) (k : Nat) (loc : Loc) (K : Kt MV) (m : Mem) (c : Nat) : Prop := som ((ext P).fn x f) fun fi => evSs (ext P) H.fz (inl (ext P) H G n) (fi.body.drop k) fi.scope loc (aR8 true 40 K) m c
noncomputable def bL4 (l : List PV) : Bool := Nat.blt l.length 1000000 && match l.getLast? with
 | some (.tup (.int _ :: _)) => true
 | none => true
 | _ => false
noncomputable def Oq (G : Orc) : Orc := fun x f args K m c => match f == V "is_open" with
 | false => G x f args K m c
 | true => match args with
  | [.inst i cl] => chk (x == V "" && cl == V "Low") (atA m[i]? fun l => som (l.lookup (V "out")) fun v => onO v fun j => atP m[j]? fun out => chk (bL4 out) (K (b_ (aA6 out)) m c))
  | _ => False
variable (P : PI) (x : LD) (G : Orc) (K : Kt MV) (c : Nat)
noncomputable abbrev rA (n : Nat) (cls f : String) (args : List MV) (K : Kt MV) (m : Mem) (c : Nat) : Prop := runM P HA (Oq G) n (V cls) (V f) args K m c
noncomputable abbrev tA (n : Nat) (cls f : String) (k : Nat) (loc : Loc) (K : Kt MV) (m : Mem) (c : Nat) : Prop := rst P HA (Oq G) n (V cls) (V f) k loc K m c
noncomputable abbrev calM (cls f : String) (args : List MV) (K : Kt MV) (m : Mem) (c : Nat) : Prop := G (V cls) (V f) args K m c
noncomputable abbrev lvL (K : Kt MV) : Kt MV := fun v => bJ9 40 v K
noncomputable def LD.put (x : LD) (l : List PV) : LD := { x with out := x.out ++ l }
noncomputable def LD.lab (x : LD) (n : Nat) : LD := { x with labels := x.labels + n }
noncomputable abbrev lN (n : Nat) : MV := i_ (n : Int)
noncomputable def loc3 (o : Nat) (cls : String) (s : PV) (r : Loc) : Loc := (V "self", .inst o (V cls)) :: (V "lw", lwV) :: (V "s", .p s) :: r
noncomputable def loc2 (s : PV) (r : Loc) : Loc := (V "lw", lwV) :: (V "s", .p s) :: r
noncomputable abbrev rS (s : PV) (K : Kt MV) (m : Mem) (c : Nat) : Prop := runM P HS G 2 (V "Low") (V "stmt") [lwV, .p s] K m c
noncomputable abbrev lv2 (K : Kt MV) : Kt MV := fun _ => lvL (fun _ => lvL K n_) n_
theorem l_1 (r : List PV) : rS P G (.tup (.int 1 :: r)) K (LB x) c = K n_ (LB (x.put [.tup (.int 1 :: r)])) (c + 1) := by kernel_rfl
theorem l_12 (r : List PV) : rS P G (.tup (.int 12 :: r)) K (LB x) c = K n_ (LB (x.put [.tup (.int 12 :: r)])) (c + 1) := by kernel_rfl
theorem l_13 (r : List PV) : rS P G (.tup (.int 13 :: r)) K (LB x) c = K n_ (LB (x.put [.tup (.int 13 :: r)])) (c + 1) := by kernel_rfl
theorem l_10 (r : List PV) : rS P G (.tup (.int 10 :: r)) K (LB x) c = calM G "LowBreak" "low" [.inst 30 (V "LowBreak"), lwV, .p (.tup (.int 10 :: r))] (lv2 K) (LB x) c := by kernel_rfl
theorem l_11 (r : List PV) : rS P G (.tup (.int 11 :: r)) K (LB x) c = calM G "LowContinue" "low" [.inst 31 (V "LowContinue"), lwV, .p (.tup (.int 11 :: r))] (lv2 K) (LB x) c := by kernel_rfl
theorem l_5 (r : List PV) : rS P G (.tup (.int 5 :: r)) K (LB x) c = calM G "LowWhile" "low" [.inst 32 (V "LowWhile"), lwV, .p (.tup (.int 5 :: r))] (lv2 K) (LB x) c := by kernel_rfl
theorem l_6 (r : List PV) : rS P G (.tup (.int 6 :: r)) K (LB x) c = calM G "LowDo" "low" [.inst 33 (V "LowDo"), lwV, .p (.tup (.int 6 :: r))] (lv2 K) (LB x) c := by kernel_rfl
theorem l_7 (r : List PV) : rS P G (.tup (.int 7 :: r)) K (LB x) c = calM G "LowFor" "low" [.inst 34 (V "LowFor"), lwV, .p (.tup (.int 7 :: r))] (lv2 K) (LB x) c := by kernel_rfl
theorem l_8 (r : List PV) : rS P G (.tup (.int 8 :: r)) K (LB x) c = calM G "LowForeach" "low" [.inst 35 (V "LowForeach"), lwV, .p (.tup (.int 8 :: r))] (lv2 K) (LB x) c := by kernel_rfl
theorem l_3 (r : List PV) : rS P G (.tup (.int 3 :: r)) K (LB x) c = calM G "LowBlock" "low" [.inst 36 (V "LowBlock"), lwV, .p (.tup (.int 3 :: r))] (lv2 K) (LB x) c := by kernel_rfl
theorem l_4 (r : List PV) : rS P G (.tup (.int 4 :: r)) K (LB x) c = calM G "LowIf" "low" [.inst 37 (V "LowIf"), lwV, .p (.tup (.int 4 :: r))] (lv2 K) (LB x) c := by kernel_rfl
theorem l_14 (r : List PV) : rS P G (.tup (.int 14 :: r)) K (LB x) c = calM G "LowTry" "low" [.inst 38 (V "LowTry"), lwV, .p (.tup (.int 14 :: r))] (lv2 K) (LB x) c := by kernel_rfl
theorem l_15 (r : List PV) : rS P G (.tup (.int 15 :: r)) K (LB x) c = calM G "LowUsing" "low" [.inst 39 (V "LowUsing"), lwV, .p (.tup (.int 15 :: r))] (lv2 K) (LB x) c := by kernel_rfl
end
section
noncomputable def LD.puts (x : LD) (l : List PV) : LD := l.foldl (fun x s => x.put [s]) x
variable (P : PI) (x : LD) (G : Orc) (K : Kt MV) (c : Nat)
noncomputable def jmpF (i : Nat) : Prop := onN ((x.targets.length : Int) - 1) fun n => som x.targets[n]? fun t => onT t fun l => som l[i]? fun y => K n_ (LB (x.put [.tup [pi 21, y]])) (c + 1)
theorem eB8 (r : List PV) : rA P G 2 "LowBreak" "low" [.inst 30 (V "LowBreak"), lwV, .p (.tup (.int 10 :: r))] K (LB x) c = jmpF x K c 0 := by kernel_rfl
theorem dD3 (r : List PV) : rA P G 2 "LowContinue" "low" [.inst 31 (V "LowContinue"), lwV, .p (.tup (.int 11 :: r))] K (LB x) c = jmpF x K c 1 := by kernel_rfl
noncomputable abbrev locI (s : PV) (o : Nat) (r : Loc) : Loc := loc3 37 "LowIf" s ((V "other", lN o) :: r)
theorem z_if (y n : PV) : rA P G 6 "LowIf" "low" [.inst 37 (V "LowIf"), lwV, .p (.tup [pi 4, eAsk, y, n])] K (LB x) c = calM G "Low" "stmt" [lwV, .p y] (fun _ => tA P G 6 "LowIf" "low" 3 (locI (.tup [pi 4, eAsk, y, n]) (x.labels + 1) []) K) (LB ((x.lab 1).put [cIf eAsk 0 (x.labels + 1)])) (c + 1) := by kernel_rfl
theorem dZ (y : PV) (o : Nat) : tA P G 6 "LowIf" "low" 3 (locI (.tup [pi 4, eAsk, y, .none]) o []) K (LB x) c = K n_ (LB (x.put [cLab o])) (c + 1) := by kernel_rfl
theorem eB1 (y : PV) (n : List PV) (o : Nat) : tA P G 6 "LowIf" "low" 3 (locI (.tup [pi 4, eAsk, y, .tup n]) o []) K (LB x) c = chk (bL4 x.out) (br (aA6 x.out)
  (calM G "Low" "stmt" [lwV, .p (.tup n)] (fun _ => tA P G 6 "LowIf" "low" 8 (locI (.tup [pi 4, eAsk, y, .tup n]) o [(V "behind", lN (x.labels + 1))]) K) (LB ((x.lab 1).puts [cGo (x.labels + 1), cLab o])) (c + 1 + 1))
  (calM G "Low" "stmt" [lwV, .p (.tup n)] (fun _ => tA P G 6 "LowIf" "low" 8 (locI (.tup [pi 4, eAsk, y, .tup n]) o [(V "behind", lN (x.labels + 1))]) K) (LB ((x.lab 1).puts [cLab o])) (c + 1))) := by kernel_rfl
theorem dX1 (s : PV) (o b : Nat) : tA P G 6 "LowIf" "low" 8 (locI s o [(V "behind", lN b)]) K (LB x) c = K n_ (LB (x.put [cLab b])) (c + 1) := by kernel_rfl
theorem z_in (s : PV) (b a : Nat) : rA P G 0 "" "low_inside" [lwV, .p s, lN b, lN a] K (LB x) c = calM G "Low" "stmt" [lwV, .p s] (fun _ => tA P G 0 "" "low_inside" 2 (loc2 s [(V "behind", lN b), (V "again", lN a)]) K) (LB { x with targets := x.targets ++ [.tup [pn b, pn a]] }) (c + 1) := by kernel_rfl
theorem eF8 (s : PV) (b a : Nat) : tA P G 0 "" "low_inside" 2 (loc2 s [(V "behind", lN b), (V "again", lN a)]) K (LB x) c = som x.targets.getLast? fun _ => K n_ (LB { x with targets := x.targets.dropLast }) c := by kernel_rfl
noncomputable abbrev loc4 (o : Nat) (cls : String) (s : PV) (t a b : Nat) : Loc := loc3 o cls s [(V "top", lN t), (V "again", lN a), (V "behind", lN b)]
noncomputable abbrev loc5 (s : PV) (t a z b : Nat) (r : Loc) : Loc := loc3 34 "LowFor" s ((V "top", lN t) :: (V "again", lN a) :: (V "test", lN z) :: (V "behind", lN b) :: r)
theorem z_wh (t b : PV) : rA P G 6 "LowWhile" "low" [.inst 32 (V "LowWhile"), lwV, .p (.tup [pi 5, t, b])] K (LB x) c = calM G "" "low_inside" [lwV, .p b, lN (x.labels + 3), lN (x.labels + 2)] (fun _ => tA P G 6 "LowWhile" "low" 6 (loc4 32 "LowWhile" (.tup [pi 5, t, b]) (x.labels + 1) (x.labels + 2) (x.labels + 3)) K) (LB ((x.lab 3).puts [cGo (x.labels + 2), cLab (x.labels + 1)])) (c + 1 + 1) := by kernel_rfl
theorem eI (b : PV) (t a z : Nat) : tA P G 6 "LowWhile" "low" 6 (loc4 32 "LowWhile" (.tup [pi 5, tst .ask, b]) t a z) K (LB x) c = K n_ (LB (x.puts (cLab a :: (cTst .ask t ++ [cLab z])))) (c + 1 + 1 + 1) := by kernel_rfl
theorem dX7 (b : PV) (t a z : Nat) : tA P G 6 "LowWhile" "low" 6 (loc4 32 "LowWhile" (.tup [pi 5, tst .zero, b]) t a z) K (LB x) c = K n_ (LB (x.puts (cLab a :: (cTst .zero t ++ [cLab z])))) (c + 1 + 1) := by kernel_rfl
theorem eD5 (b : PV) (t a z : Nat) : tA P G 6 "LowWhile" "low" 6 (loc4 32 "LowWhile" (.tup [pi 5, tst .one, b]) t a z) K (LB x) c = K n_ (LB (x.puts (cLab a :: (cTst .one t ++ [cLab z])))) (c + 1 + 1 + 1) := by kernel_rfl
theorem z_do (t b : PV) : rA P G 6 "LowDo" "low" [.inst 33 (V "LowDo"), lwV, .p (.tup [pi 6, b, t])] K (LB x) c = calM G "" "low_inside" [lwV, .p b, lN (x.labels + 3), lN (x.labels + 2)] (fun _ => tA P G 6 "LowDo" "low" 5 (loc4 33 "LowDo" (.tup [pi 6, b, t]) (x.labels + 1) (x.labels + 2) (x.labels + 3)) K) (LB ((x.lab 3).puts [cLab (x.labels + 1)])) (c + 1) := by kernel_rfl
theorem eH3 (b : PV) (t a z : Nat) : tA P G 6 "LowDo" "low" 5 (loc4 33 "LowDo" (.tup [pi 6, b, tst .ask]) t a z) K (LB x) c = K n_ (LB (x.puts (cLab a :: (cTst .ask t ++ [cLab z])))) (c + 1 + 1 + 1) := by kernel_rfl
theorem dW2 (b : PV) (t a z : Nat) : tA P G 6 "LowDo" "low" 5 (loc4 33 "LowDo" (.tup [pi 6, b, tst .zero]) t a z) K (LB x) c = K n_ (LB (x.puts (cLab a :: (cTst .zero t ++ [cLab z])))) (c + 1 + 1) := by kernel_rfl
theorem eE (b : PV) (t a z : Nat) : tA P G 6 "LowDo" "low" 5 (loc4 33 "LowDo" (.tup [pi 6, b, tst .one]) t a z) K (LB x) c = K n_ (LB (x.puts (cLab a :: (cTst .one t ++ [cLab z])))) (c + 1 + 1 + 1) := by kernel_rfl
noncomputable abbrev rF (n : Nat) (cls f : String) (args : List MV) (K : Kt MV) (m : Mem) (c : Nat) : Prop := runM P HFo G n (V cls) (V f) args K m c
noncomputable abbrev tF (n : Nat) (cls f : String) (k : Nat) (loc : Loc) (K : Kt MV) (m : Mem) (c : Nat) : Prop := rst P HFo G n (V cls) (V f) k loc K m c
noncomputable def bJ1 (e1 : Int) (t : PV) (e2 e3 : Int) (b : PV) : PV := .tup [pi 7, .tup [sX (.say e1)], t, .tup [sX (.say e2), sX (.say e3)], b, pi 0]
theorem eH7 (t b : PV) (e1 e2 e3 : Int) : rF P G 6 "LowFor" "low" [.inst 34 (V "LowFor"), lwV, .p (bJ1 e1 t e2 e3 b)] K (LB x) c = calM G "" "low_inside" [lwV, .p b, lN (x.labels + 4), lN (x.labels + 2)] (fun _ => tF P G 6 "LowFor" "low" 8 (loc5 (bJ1 e1 t e2 e3 b) (x.labels + 1) (x.labels + 2) (x.labels + 3) (x.labels + 4) [(V "one", .p (sX (.say e1)))]) K) (LB ((x.lab 4).puts [sX (.say e1), cGo (x.labels + 3), cLab (x.labels + 1)])) (c + 1 + 1 + 1) := by kernel_rfl
theorem dO3 (b : PV) (e1 e2 e3 : Int) (t a y z : Nat) : tF P G 6 "LowFor" "low" 8 (loc5 (bJ1 e1 (tst .ask) e2 e3 b) t a y z [(V "one", .p (sX (.say e1)))]) K (LB x) c = K n_ (LB (x.puts ([cLab a, sX (.say e2), sX (.say e3), cLab y] ++ (cTst .ask t ++ [cLab z])))) (c + 1 + 1 + 1 + 1 + 1 + 1) := by kernel_rfl
theorem dS7 (b : PV) (e1 e2 e3 : Int) (t a y z : Nat) : tF P G 6 "LowFor" "low" 8 (loc5 (bJ1 e1 (tst .zero) e2 e3 b) t a y z [(V "one", .p (sX (.say e1)))]) K (LB x) c = K n_ (LB (x.puts ([cLab a, sX (.say e2), sX (.say e3), cLab y] ++ (cTst .zero t ++ [cLab z])))) (c + 1 + 1 + 1 + 1 + 1) := by kernel_rfl
theorem dR0 (b : PV) (e1 e2 e3 : Int) (t a y z : Nat) : tF P G 6 "LowFor" "low" 8 (loc5 (bJ1 e1 (tst .one) e2 e3 b) t a y z [(V "one", .p (sX (.say e1)))]) K (LB x) c = K n_ (LB (x.puts ([cLab a, sX (.say e2), sX (.say e3), cLab y] ++ (cTst .one t ++ [cLab z])))) (c + 1 + 1 + 1 + 1 + 1 + 1) := by kernel_rfl
theorem dS5 (b : PV) (e1 e2 e3 : Int) (t a y z : Nat) : tF P G 6 "LowFor" "low" 8 (loc5 (bJ1 e1 (tst .non) e2 e3 b) t a y z [(V "one", .p (sX (.say e1)))]) K (LB x) c = K n_ (LB (x.puts ([cLab a, sX (.say e2), sX (.say e3), cLab y] ++ (cTst .non t ++ [cLab z])))) (c + 1 + 1 + 1 + 1 + 1 + 1) := by kernel_rfl
end
section
variable (P : PI) (x : LD) (G : Orc) (K : Kt MV) (c : Nat)
noncomputable def lkF : MV -> Loc -> PT (Flw × Loc) := forB (ext P) HA.fz (inl (ext P) HA (Oq G) 0) (atS (aL1 (metS (186, 0))) 0) (aO4 (metS (186, 0)))
noncomputable def lkK (K : Kt MV) : Kt (Flw × Loc) := fun x m c => match x.1 with
 | .next => lvL K n_ m c
 | .brk => False
 | .cont => False
 | .ret v => lvL K v m c
noncomputable abbrev locB (s : PV) (r : Loc) : Loc := loc3 36 "LowBlock" s r
theorem eE5 (l : List PV) : rA P G 0 "LowBlock" "low" [.inst 36 (V "LowBlock"), lwV, .p (aA1 l)] K (LB x) c = forL (lkF P G) (lkK K) (l.map .p) (locB (aA1 l) []) (LB x) c := by kernel_rfl
theorem dW3 (s v : PV) (Kf : Kt (Flw × Loc)) : lkF P G (.p v) (locB s []) Kf (LB x) c = calM G "Low" "stmt" [lwV, .p v] (fun _ => Kf (.next, locB s [(V "one", .p v)])) (LB x) c := by kernel_rfl
theorem dZ2 (s v : PV) (u : MV) (Kf : Kt (Flw × Loc)) : lkF P G (.p v) (locB s [(V "one", u)]) Kf (LB x) c = calM G "Low" "stmt" [lwV, .p v] (fun _ => Kf (.next, locB s [(V "one", .p v)])) (LB x) c := by kernel_rfl
theorem z_bl (s : PV) : rA P G 0 "" "low_block" [lwV, .p s] K (LB x) c = calM G "Low" "stmt" [lwV, .p s] (fun _ => tA P G 0 "" "low_block" 3 (loc2 s [(V "kept", .obj 25)]) K) (LM x 40 [.pl []]) c := by kernel_rfl
theorem eE8 (s : PV) (l : List PV) : tA P G 0 "" "low_block" 3 (loc2 s [(V "kept", .obj 25)]) K (LM x 40 [.pl l]) c = K (.p (aA1 l)) (LB x) c := by kernel_rfl
noncomputable abbrev locY (s : PV) (r : Loc) : Loc := loc3 38 "LowTry" s r
noncomputable abbrev sTry (b rows l : PV) : PV := .tup [pi 14, b, rows, l]
noncomputable abbrev rowV (lid : Nat) (h : PV) : PV := .tup [.tup [pi (-1), pn lid, .none, h]]
theorem eE3 (b rows l : PV) : rA P G 2 "LowTry" "low" [.inst 38 (V "LowTry"), lwV, .p (sTry b rows l)] K (LB x) c = calM G "" "low_block" [lwV, .p b] (fun v => tA P G 2 "LowTry" "low" 1 (locY (sTry b rows l) [(V "body", v)]) K) (LB x) c := by kernel_rfl
theorem eA4 (b b' : PV) : tA P G 2 "LowTry" "low" 1 (locY (sTry b (.tup []) .none) [(V "body", .p b')]) K (LB x) c = K n_ (LB (x.put [sTry b' (.tup []) .none])) (c + 1) := by kernel_rfl
theorem eC5 (b b' : PV) (l : List PV) : tA P G 2 "LowTry" "low" 1 (locY (sTry b (.tup []) (.tup l)) [(V "body", .p b')]) K (LB x) c = calM G "" "low_block" [lwV, .p (.tup l)] (fun v => tA P G 2 "LowTry" "low" 5 (locY (sTry b (.tup []) (.tup l)) [(V "body", .p b'), (V "rows", .obj 40), (V "last", v)]) K) (LM x 25 [.pl []]) c := by kernel_rfl
theorem eA5 (b' l' : PV) (rows : List PV) (s : PV) : tA P G 2 "LowTry" "low" 5 (locY s [(V "body", .p b'), (V "rows", .obj 40), (V "last", .p l')]) K (LM x 25 [.pl rows]) c = K n_ (LB (x.put [sTry b' (.tup rows) l'])) (c + 1) := by kernel_rfl
noncomputable def hdlL (s : PV) (b' : PV) (lid : Nat) (row : PV) (v : MV) : Mem -> Nat -> Prop := tupV [i_ (-1), .p (pn lid), n_, v] fun t => runC (ext P) HA.fz (inl (ext P) HA (Oq G) 2) (.lappend 40) [t] fun _ => tA P G 2 "LowTry" "low" 3 (locY s [(V "body", .p b'), (V "rows", .obj 40), (V "row", .p row)]) K
theorem eI3 (b b' l h : PV) (lid : Nat) : tA P G 2 "LowTry" "low" 1 (locY (sTry b (rowV lid h) l) [(V "body", .p b')]) K (LB x) c = calM G "" "low_block" [lwV, .p h] (hdlL P G K (sTry b (rowV lid h) l) b' lid (.tup [pi (-1), pn lid, .none, h])) (LM x 25 [.pl []]) c := by kernel_rfl
theorem dX0 (b b' h' r : PV) (rows : PV) (lid : Nat) : hdlL P G K (sTry b rows .none) b' lid r (.p h') (LM x 25 [.pl []]) c = K n_ (LB (x.put [sTry b' (rowV lid h') .none])) (c + 1 + 1) := by kernel_rfl
theorem eG3 (b b' h' r : PV) (rows : PV) (l : List PV) (lid : Nat) : hdlL P G K (sTry b rows (.tup l)) b' lid r (.p h') (LM x 25 [.pl []]) c = calM G "" "low_block" [lwV, .p (.tup l)] (fun v => tA P G 2 "LowTry" "low" 5 (locY (sTry b rows (.tup l)) [(V "body", .p b'), (V "rows", .obj 40), (V "row", .p r), (V "last", v)]) K) (LM x 25 [.pl [.tup [pi (-1), pn lid, .none, h']]]) (c + 1) := by kernel_rfl
theorem eF0 (b' l' r : PV) (rows : List PV) (s : PV) : tA P G 2 "LowTry" "low" 5 (locY s [(V "body", .p b'), (V "rows", .obj 40), (V "row", .p r), (V "last", .p l')]) K (LM x 25 [.pl rows]) c = K n_ (LB (x.put [sTry b' (.tup rows) l'])) (c + 1) := by kernel_rfl
noncomputable abbrev sUse (w lid : Nat) (b : PV) : PV := .tup [pi 15, pn lid, aA3 (kUse w) (fUse w), aG9 0 (eLoc (kUse w) lid) (kUse w) (mUse w) (vUse w), b]
noncomputable abbrev locU (s : PV) (r : Loc) : Loc := loc3 39 "LowUsing" s r
theorem z_at (lid : Nat) : rA P G 0 "" "local_at" [lwV, .p (pn lid)] K (LB x) c = chk (Nat.blt lid 1000000) (som x.b.vars[lid]? fun v => getA (ext P) (.p v) (V "kind") (fun k => tupV [i_ 2, k, .p (pn lid)] (lvL K)) (LB x) c) := by kernel_rfl
theorem z_us (lid : Nat) (e b d : PV) : rA P G 10 "LowUsing" "low" [.inst 39 (V "LowUsing"), lwV, .p (.tup [pi 15, pn lid, e, d, b])] K (LB x) c = calM G "" "local_at" [lwV, .p (pn lid)] (fun v => tA P G 10 "LowUsing" "low" 1 (locU (.tup [pi 15, pn lid, e, d, b]) [(V "spot", v)]) K) (LB x) c := by kernel_rfl
theorem eA0 (lid : Nat) (b : PV) : tA P G 10 "LowUsing" "low" 1 (locU (sUse 0 lid b) [(V "spot", .p (eLoc (kUse 0) lid))]) K (LB x) c = calM G "" "low_block" [lwV, .p b] (fun v => tA P G 10 "LowUsing" "low" 3 (locU (sUse 0 lid b) [(V "spot", .p (eLoc (kUse 0) lid)), (V "body", v)]) K) (LB (x.put [cUse 0 lid])) (c + 1) := by kernel_rfl
theorem eC3 (lid : Nat) (b : PV) : tA P G 10 "LowUsing" "low" 1 (locU (sUse 1 lid b) [(V "spot", .p (eLoc (kUse 1) lid))]) K (LB x) c = calM G "" "low_block" [lwV, .p b] (fun v => tA P G 10 "LowUsing" "low" 3 (locU (sUse 1 lid b) [(V "spot", .p (eLoc (kUse 1) lid)), (V "body", v)]) K) (LB (x.put [cUse 1 lid])) (c + 1) := by kernel_rfl
theorem dV4 (lid : Nat) (b : PV) : tA P G 10 "LowUsing" "low" 1 (locU (sUse 2 lid b) [(V "spot", .p (eLoc (kUse 2) lid))]) K (LB x) c = calM G "" "low_block" [lwV, .p b] (fun v => tA P G 10 "LowUsing" "low" 3 (locU (sUse 2 lid b) [(V "spot", .p (eLoc (kUse 2) lid)), (V "body", v)]) K) (LB (x.put [cUse 2 lid])) (c + 1) := by kernel_rfl
theorem eA7 (lid n : Nat) (b : PV) : tA P G 10 "LowUsing" "low" 1 (locU (sUse (n + 3) lid b) [(V "spot", .p (eLoc (kUse (n + 3)) lid))]) K (LB x) c = calM G "" "low_block" [lwV, .p b] (fun v => tA P G 10 "LowUsing" "low" 3 (locU (sUse (n + 3) lid b) [(V "spot", .p (eLoc (kUse (n + 3)) lid)), (V "body", v)]) K) (LB (x.put [cUse (n + 3) lid])) (c + 1) := by kernel_rfl
noncomputable abbrev tryU (w lid l : Nat) (b' : PV) : PV := sTry b' (.tup []) (aA1 (lowU lid l w))
theorem dY4 (lid : Nat) (b b' : PV) : tA P G 10 "LowUsing" "low" 3 (locU (sUse 0 lid b) [(V "spot", .p (eLoc (kUse 0) lid)), (V "body", .p b')]) K (LB x) c = K n_ (LB ((x.lab 1).put [tryU 0 lid (x.labels + 1) b'])) (c + 15) := by kernel_rfl
theorem eC9 (lid : Nat) (b b' : PV) : tA P G 10 "LowUsing" "low" 3 (locU (sUse 1 lid b) [(V "spot", .p (eLoc (kUse 1) lid)), (V "body", .p b')]) K (LB x) c = K n_ (LB ((x.lab 1).put [tryU 1 lid (x.labels + 1) b'])) (c + 15) := by kernel_rfl
theorem eH4 (lid : Nat) (b b' : PV) : tA P G 10 "LowUsing" "low" 3 (locU (sUse 2 lid b) [(V "spot", .p (eLoc (kUse 2) lid)), (V "body", .p b')]) K (LB x) c = K n_ (LB ((x.lab 1).put [tryU 2 lid (x.labels + 1) b'])) (c + 12) := by kernel_rfl
theorem dX4 (lid n : Nat) (b b' : PV) : tA P G 10 "LowUsing" "low" 3 (locU (sUse (n + 3) lid b) [(V "spot", .p (eLoc (kUse (n + 3)) lid)), (V "body", .p b')]) K (LB x) c = K n_ (LB ((x.lab 1).put [tryU (n + 3) lid (x.labels + 1) b'])) (c + 15) := by kernel_rfl
noncomputable def utc (u : Nat) : Nat := match u with | 2 => 12 | _ => 15
theorem dW7 (u lid : Nat) (b : PV) : tA P G 10 "LowUsing" "low" 1 (locU (sUse u lid b) [(V "spot", .p (eLoc (kUse u) lid))]) K (LB x) c = calM G "" "low_block" [lwV, .p b] (fun v => tA P G 10 "LowUsing" "low" 3 (locU (sUse u lid b) [(V "spot", .p (eLoc (kUse u) lid)), (V "body", v)]) K) (LB (x.put [cUse u lid])) (c + 1) :=
 match u with | 0 => eA0 .. | 1 => eC3 .. | 2 => dV4 .. | _ + 3 => eA7 ..
theorem eH9 (u lid : Nat) (b b' : PV) : tA P G 10 "LowUsing" "low" 3 (locU (sUse u lid b) [(V "spot", .p (eLoc (kUse u) lid)), (V "body", .p b')]) K (LB x) c = K n_ (LB ((x.lab 1).put [tryU u lid (x.labels + 1) b'])) (c + utc u) :=
 match u with | 0 => dY4 .. | 1 => eC9 .. | 2 => eH4 .. | _ + 3 => dX4 ..
theorem dD (u : Nat) : utc u <= 15 := match u with | 0 => by decide | 1 => by decide | 2 => by decide | _ + 3 => nR _
noncomputable abbrev bI5 (lid e b info : PV) : PV := .tup [pi 8, lid, e, b, info, pi 0]
theorem z_fa (lid e b : PV) (r : List PV) : rA P G 0 "LowForeach" "low" [.inst 35 (V "LowForeach"), lwV, .p (bI5 lid e b (.tup (pi 1 :: r)))] K (LB x) c = calM G "" "low_over_array" [lwV, .p (bI5 lid e b (.tup (pi 1 :: r)))] (fun _ => lvL K n_) (LB x) c := by kernel_rfl
theorem z_fp (lid e b : PV) (r : List PV) : rA P G 0 "LowForeach" "low" [.inst 35 (V "LowForeach"), lwV, .p (bI5 lid e b (.tup (pi 2 :: r)))] K (LB x) c = calM G "" "low_over_pattern" [lwV, .p (bI5 lid e b (.tup (pi 2 :: r)))] (fun _ => lvL K n_) (LB x) c := by kernel_rfl
end
section
noncomputable def secT (s : Stmt) : List Expr := (bU1 (argE (exS s) 1)).1
noncomputable def LD.tmp (x : LD) (kind : Int) : LD := { x with b := { x.b with vars := x.b.vars ++ [varV x.b.vars.length (V "") kind 32], lids := x.b.lids ++ [pn x.b.vars.length] } }
noncomputable def LD.vl (x : LD) : Nat := x.b.vars.length
variable (P : PI) (x : LD) (G : Orc) (K : Kt MV) (c : Nat)
@[irreducible] noncomputable def effT (f : String) (k j : Nat) (pre : List MV) (loc : Loc) (v : MV) (m : Mem) (c : Nat) : Prop := som ((ext P).fn (V "") (V f)) fun fi => evL (ext P) HA.fz (inl (ext P) HA (Oq G) 12) ((secT (atS fi.body k)).drop j) fi.scope loc (fun vs => tupV (pre ++ (v :: vs)) (fun t => runC (ext P) HA.fz (inl (ext P) HA (Oq G) 12) (.fn (V "") (V "effect_in") []) [lwV, t] (fun _ => tA P G 12 "" f (k + 1) loc K))) m c
@[irreducible] noncomputable def aW7 (lid : Nat) (Kk : Kt MV) : Prop := chk (Nat.blt lid 1000000) (som x.b.vars[lid]? fun v => getA (ext P) (.p v) (V "kind") Kk (LB x) c)
noncomputable abbrev sArr (lid : Nat) (e b : PV) (w : Bool) : PV := bI5 (pn lid) e b (.tup [pi 1, aF4 w aH9])
noncomputable abbrev aK1 (s e : PV) (v i t : Nat) : Loc := loc2 s [(V "e", .p e), (V "arr", .p (eLoc 21 v)), (V "index", .p (eLoc 7 i)), (V "top", lN (t + 1)), (V "again", lN (t + 2)), (V "test", lN (t + 3)), (V "behind", lN (t + 4)), (V "value", .p (dN (eLoc 21 v) (eLoc 7 i)))]
noncomputable def yArr (x : LD) (e : PV) : LD := (((x.tmp 21).tmp 7).lab 4).puts [sAsg 21 (eLoc 21 x.vl) e, cIdx (x.tmp 21).vl, cGo (x.labels + 3), cLab (x.labels + 1)]
theorem z_q1 (lid : Nat) (b : PV) (w : Bool) : rA P G 12 "" "low_over_array" [lwV, .p (sArr lid (eSrc none) b w)] K (LB x) c = aW7 P (yArr x (eSrc none)) (c + 8) lid (effT P G K "low_over_array" 12 2 [i_ 22] (aK1 (sArr lid (eSrc none) b w) (eSrc none) x.vl (x.tmp 21).vl x.labels)) := by kernel_rfl
theorem z_q2 (lid r : Nat) (b : PV) (w : Bool) : rA P G 12 "" "low_over_array" [lwV, .p (sArr lid (eSrc (some r)) b w)] K (LB x) c = aW7 P (yArr x (eSrc (some r))) (c + 8) lid (effT P G K "low_over_array" 12 2 [i_ 22] (aK1 (sArr lid (eSrc (some r)) b w) (eSrc (some r)) x.vl (x.tmp 21).vl x.labels)) := by kernel_rfl
theorem z_q3 (lid v i t : Nat) (b e: PV) (w : Bool) (kd : MV) : effT P G K "low_over_array" 12 2 [i_ 22] (aK1 (sArr lid e b w) e v i t) kd (LB x) c = calM G "" "local_at" [lwV, .p (pn lid)] (effT P G K "low_over_array" 12 3 [i_ 22, kd] (aK1 (sArr lid e b w) e v i t)) (LB x) c := by kernel_rfl
theorem z_q4 (lid v i t : Nat) (b e: PV) : effT P G K "low_over_array" 12 3 [i_ 22, i_ 7] (aK1 (sArr lid e b false) e v i t) (.p (eLoc 7 lid)) (LB x) c = calM G "" "low_inside" [lwV, .p b, lN (t + 4), lN (t + 2)] (fun _ => tA P G 12 "" "low_over_array" 14 (aK1 (sArr lid e b false) e v i t) K) (LB (x.put [aL4 lid false v i])) (c + 21) := by kernel_rfl
theorem z_q5 (lid v i t : Nat) (b e: PV) : effT P G K "low_over_array" 12 3 [i_ 22, i_ 9] (aK1 (sArr lid e b true) e v i t) (.p (eLoc 9 lid)) (LB x) c = calM G "" "low_inside" [lwV, .p b, lN (t + 4), lN (t + 2)] (fun _ => tA P G 12 "" "low_over_array" 14 (aK1 (sArr lid e b true) e v i t) K) (LB (x.put [aL4 lid true v i])) (c + 36) := by kernel_rfl
theorem z_q6 (v i t : Nat) (e s : PV) : tA P G 12 "" "low_over_array" 14 (aK1 s e v i t) K (LB x) c = K n_ (LB (x.puts [cLab (t + 2), cInc i, cLab (t + 3), cIf (aQ1 i v) 1 (t + 1), cLab (t + 4)])) (c + 8) := by kernel_rfl
noncomputable abbrev aQ5 (get : PV) (sort : Nat) (disp : PV) (w : Bool) : PV := .tup [pi 2, get, mRef (aA7 sort) (two (isC sort) 4 6), mRef (aA7 sort) (two (isC sort) 5 7), disp, pi (aA7 sort), aF4 w aH9]
noncomputable abbrev sPat (lid : Nat) (e b get : PV) (sort : Nat) (disp : PV) (w : Bool) : PV := bI5 (pn lid) e b (aQ5 get sort disp w)
noncomputable abbrev pGet (sort : Nat) : PV := mRef 17 (two (isC sort) 2 3)
noncomputable abbrev ePat (idx : Nat) : PV := aA3 17 (1100 + idx)
noncomputable abbrev sPt (lid idx : Nat) (b : PV) (sort : Nat) (w : Bool) : PV := sPat lid (ePat idx) b (pGet sort) sort (aI8 sort) w
noncomputable abbrev locP (s : PV) (info : PV) (idx : Nat) (each : PV) : Loc := loc2 s [(V "info", .p info), (V "e", .p (ePat idx)), (V "each", .p each), (V "kept", .obj 25)]
noncomputable abbrev aF8 (lid : Nat) (e b get : PV) (sort : Nat) (disp : PV) (w : Bool) (v t : Nat) : Loc := loc2 (sPat lid e b get sort disp w) [(V "each", .p (eLoc (aA7 sort) v)), (V "info", .p (aQ5 get sort disp w)), (V "top", lN (t + 1)), (V "again", lN (t + 2)), (V "behind", lN (t + 3)), (V "value", .p (eNow v sort))]
noncomputable abbrev tryD (l : List PV) (d : List PV) : PV := cTry l (.tup []) (aA1 d)
theorem eH0 (lid v : Nat) (e b get disp : PV) (w : Bool) : rA P G 12 "" "low_rounds" [lwV, .p (sPat lid e b get 0 disp w), .p (eLoc (aA7 0) v)] K (LB x) c = aW7 P ((x.lab 3).puts [cGo (x.labels + 2), cLab (x.labels + 1)]) (c + 2) lid (effT P G K "low_rounds" 7 2 [i_ 22] (aF8 lid e b get 0 disp w v x.labels)) := by kernel_rfl
theorem eC8 (lid v : Nat) (e b get disp : PV) (w : Bool) : rA P G 12 "" "low_rounds" [lwV, .p (sPat lid e b get 3 disp w), .p (eLoc (aA7 3) v)] K (LB x) c = aW7 P ((x.lab 3).puts [cGo (x.labels + 2), cLab (x.labels + 1)]) (c + 2) lid (effT P G K "low_rounds" 7 2 [i_ 22] (aF8 lid e b get 3 disp w v x.labels)) := by kernel_rfl
theorem z_r2 (lid v t sort : Nat) (e b get disp : PV) (w : Bool) (kd : MV) : effT P G K "low_rounds" 7 2 [i_ 22] (aF8 lid e b get sort disp w v t) kd (LB x) c = calM G "" "local_at" [lwV, .p (pn lid)] (effT P G K "low_rounds" 7 3 [i_ 22, kd] (aF8 lid e b get sort disp w v t)) (LB x) c := by kernel_rfl
theorem eD8 (lid v t : Nat) (e b get disp : PV) : effT P G K "low_rounds" 7 3 [i_ 22, i_ 7] (aF8 lid e b get 0 disp false v t) (.p (eLoc 7 lid)) (LB x) c = calM G "" "low_inside" [lwV, .p b, lN (t + 3), lN (t + 2)] (fun _ => tA P G 12 "" "low_rounds" 9 (aF8 lid e b get 0 disp false v t) K) (LB (x.put [cNow lid false v 0])) (c + 20) := by kernel_rfl
theorem dV7 (lid v t : Nat) (e b get disp : PV) : effT P G K "low_rounds" 7 3 [i_ 22, i_ 9] (aF8 lid e b get 0 disp true v t) (.p (eLoc 9 lid)) (LB x) c = calM G "" "low_inside" [lwV, .p b, lN (t + 3), lN (t + 2)] (fun _ => tA P G 12 "" "low_rounds" 9 (aF8 lid e b get 0 disp true v t) K) (LB (x.put [cNow lid true v 0])) (c + 35) := by kernel_rfl
theorem dV9 (lid v t : Nat) (e b get disp : PV) : effT P G K "low_rounds" 7 3 [i_ 22, i_ 7] (aF8 lid e b get 3 disp false v t) (.p (eLoc 7 lid)) (LB x) c = calM G "" "low_inside" [lwV, .p b, lN (t + 3), lN (t + 2)] (fun _ => tA P G 12 "" "low_rounds" 9 (aF8 lid e b get 3 disp false v t) K) (LB (x.put [cNow lid false v 3])) (c + 20) := by kernel_rfl
theorem eG6 (lid v t : Nat) (e b get disp : PV) : effT P G K "low_rounds" 7 3 [i_ 22, i_ 9] (aF8 lid e b get 3 disp true v t) (.p (eLoc 9 lid)) (LB x) c = calM G "" "low_inside" [lwV, .p b, lN (t + 3), lN (t + 2)] (fun _ => tA P G 12 "" "low_rounds" 9 (aF8 lid e b get 3 disp true v t) K) (LB (x.put [cNow lid true v 3])) (c + 35) := by kernel_rfl
theorem eG0 (lid v t : Nat) (e b get disp : PV) (w : Bool) : tA P G 12 "" "low_rounds" 9 (aF8 lid e b get 0 disp w v t) K (LB x) c = K n_ (LB (x.puts [cLab (t + 2), cIf (aI5 v 0) 1 (t + 1), cLab (t + 3)])) (c + 4) := by kernel_rfl
theorem eE2 (lid v t : Nat) (e b get disp : PV) (w : Bool) : tA P G 12 "" "low_rounds" 9 (aF8 lid e b get 3 disp w v t) K (LB x) c = K n_ (LB (x.puts [cLab (t + 2), cIf (aI5 v 3) 1 (t + 1), cLab (t + 3)])) (c + 4) := by kernel_rfl
theorem eA (lid idx : Nat) (b : PV) (w : Bool) : rA P G 8 "" "low_over_pattern" [lwV, .p (sPt lid idx b 0 w)] K (LB x) c = calM G "" "low_rounds" [lwV, .p (sPt lid idx b 0 w), .p (eLoc (aA7 0) x.vl)] (fun _ => lvL K n_) (LB ((x.tmp 16).put [cGet x.vl 0 idx])) (c + 3) := by kernel_rfl
theorem dY3 (lid idx n : Nat) (b : PV) (w : Bool) : rA P G 8 "" "low_over_pattern" [lwV, .p (sPt lid idx b (n + 5) w)] K (LB x) c = calM G "" "low_rounds" [lwV, .p (sPt lid idx b (n + 5) w), .p (eLoc (aA7 (n + 5)) x.vl)] (fun _ => lvL K n_) (LB ((x.tmp 19).put [cGet x.vl (n + 5) idx])) (c + 3) := by kernel_rfl
theorem eG5 (lid idx : Nat) (b : PV) (w : Bool) : rA P G 8 "" "low_over_pattern" [lwV, .p (sPt lid idx b 1 w)] K (LB x) c = calM G "" "low_rounds" [lwV, .p (sPt lid idx b 1 w), .p (eLoc (aA7 1) x.vl)] (fun _ => tA P G 8 "" "low_over_pattern" 8 (locP (sPt lid idx b 1 w) (aQ5 (pGet 1) 1 (aI8 1) w) idx (eLoc (aA7 1) x.vl)) K) (LM ((x.tmp 16).put [cGet x.vl 1 idx]) 40 [.pl []]) (c + 3) := by kernel_rfl
theorem eE4 (lid idx : Nat) (b : PV) (w : Bool) : rA P G 8 "" "low_over_pattern" [lwV, .p (sPt lid idx b 2 w)] K (LB x) c = calM G "" "low_rounds" [lwV, .p (sPt lid idx b 2 w), .p (eLoc (aA7 2) x.vl)] (fun _ => tA P G 8 "" "low_over_pattern" 8 (locP (sPt lid idx b 2 w) (aQ5 (pGet 2) 2 (aI8 2) w) idx (eLoc (aA7 2) x.vl)) K) (LM ((x.tmp 16).put [cGet x.vl 2 idx]) 40 [.pl []]) (c + 3) := by kernel_rfl
theorem dW1 (lid idx : Nat) (b : PV) (w : Bool) : rA P G 8 "" "low_over_pattern" [lwV, .p (sPt lid idx b 3 w)] K (LB x) c = calM G "" "low_rounds" [lwV, .p (sPt lid idx b 3 w), .p (eLoc (aA7 3) x.vl)] (fun _ => tA P G 8 "" "low_over_pattern" 8 (locP (sPt lid idx b 3 w) (aQ5 (pGet 3) 3 (aI8 3) w) idx (eLoc (aA7 3) x.vl)) K) (LM ((x.tmp 19).put [cGet x.vl 3 idx]) 40 [.pl []]) (c + 3) := by kernel_rfl
theorem dW9 (lid idx : Nat) (b : PV) (w : Bool) : rA P G 8 "" "low_over_pattern" [lwV, .p (sPt lid idx b 4 w)] K (LB x) c = calM G "" "low_rounds" [lwV, .p (sPt lid idx b 4 w), .p (eLoc (aA7 4) x.vl)] (fun _ => tA P G 8 "" "low_over_pattern" 8 (locP (sPt lid idx b 4 w) (aQ5 (pGet 4) 4 (aI8 4) w) idx (eLoc (aA7 4) x.vl)) K) (LM ((x.tmp 19).put [cGet x.vl 4 idx]) 40 [.pl []]) (c + 3) := by kernel_rfl
theorem eA2 (s : PV) (idx v : Nat) (w : Bool) (l : List PV) : tA P G 8 "" "low_over_pattern" 8 (locP s (aQ5 (pGet 1) 1 (aI8 1) w) idx (eLoc (aA7 1) v)) K (LM x 40 [.pl l]) c = K n_ (LB (((x.tmp 18).lab 1).put [tryD l [sAsg 18 (eLoc 18 x.vl) (eAs 18 (eLoc 16 v)), cIf (eNN 18 x.vl) 0 (x.labels + 1), aH2 18 x.vl 18 8 1, cLab (x.labels + 1)]])) (c + 9) := by kernel_rfl
theorem eF3 (s : PV) (idx v : Nat) (w : Bool) (l : List PV) : tA P G 8 "" "low_over_pattern" 8 (locP s (aQ5 (pGet 2) 2 (aI8 2) w) idx (eLoc (aA7 2) v)) K (LM x 40 [.pl l]) c = K n_ (LB ((x.lab 1).put [tryD l [cIf (eNN 16 v) 0 (x.labels + 1), aH2 16 v 16 9 1, cLab (x.labels + 1)]])) (c + 6) := by kernel_rfl
theorem eC1 (s : PV) (idx v : Nat) (w : Bool) (l : List PV) : tA P G 8 "" "low_over_pattern" 8 (locP s (aQ5 (pGet 3) 3 (aI8 3) w) idx (eLoc (aA7 3) v)) K (LM x 40 [.pl l]) c = K n_ (LB (x.put [tryD l [aH2 19 v 19 10 0]])) (c + 2) := by kernel_rfl
theorem eA3 (s : PV) (idx v : Nat) (w : Bool) (l : List PV) : tA P G 8 "" "low_over_pattern" 8 (locP s (aQ5 (pGet 4) 4 (aI8 4) w) idx (eLoc (aA7 4) v)) K (LM x 40 [.pl l]) c = K n_ (LB (x.put [tryD l [aH2 19 v 18 8 2]])) (c + 2) := by kernel_rfl
end
section
variable {P : PI} {G : Orc} {K : Kt MV} {m : Mem} {c i j : Nat} {l out : List PV}
noncomputable def opF (a b d e : Bool) (K : MV -> Prop) : Prop := br (!a) (br (!b) (br (!d) (K (b_ (!e))) (K (b_ (!d)))) (K (b_ (!b)))) (K (b_ (!a)))
theorem dP0 (i : Nat) : run P HX G 0 (V "is_open") [.inst i (V "Low")] K m c = getA (ext P) (.inst i (V "Low")) (V "out") (fun o => truK o fun b m c => br (!b) (K (b_ true) m c) (getA (ext P) (.inst i (V "Low")) (V "out") (fun o => getA (ext P) (.inst i (V "Low")) (V "out") (fun o2 => aP o2 fun n => aF0 .Sub n (i_ 1) fun k => getI o k fun s => getI s (i_ 0) fun v =>
  aG1 (ext P) .NotEq v (i_ 21) fun v1 => truK v1 fun b1 m c => br b1 (aG1 (ext P) .NotEq v (i_ 12) (fun v2 => truK v2 fun b2 m c => br b2 (aG1 (ext P) .NotEq v (i_ 13) (fun v3 => truK v3 fun b3 m c => br b3 (aG1 (ext P) .NotEq v (i_ 17) K m c) (K v3 m c)) m c) (K v2 m c)) m c) (K v1 m c))) m c)) m c := by kernel_rfl
theorem ne_i {a b : Int} : aG1 (ext P) .NotEq (i_ a) (i_ b) K m c = K (b_ (!decide (a = b))) m c := by kernel_rfl
theorem tru_b {b : Bool} {k : Kt Bool} : truK (b_ b) k m c = k b m c := by kernel_rfl
theorem get0 {a : PV} {r : List PV} : getI (.p (.tup (a :: r))) (i_ 0) K m c = K (.p a) m c := by kernel_rfl
theorem sub_i {a b : Int} : aF0 .Sub (i_ a) (i_ b) K m c = K (i_ (a - b)) m c := by kernel_rfl
theorem dI3 {cl x : Str} {l : List (Str × MV)} {v : MV} (h : m[i]? = some (.attrs l)) (hl : l.lookup x = some v) (ha : (ext P).attr cl x = true) (q : K v m c) : getA (ext P) (.inst i cl) x K m c := by
 unfold getA; show chk ((ext P).attr cl x) (atA m[i]? _)
 rw [h]; refine aI1 ha ?_
 show som (l.lookup x) _; rw [hl]; exact q
theorem eH6 {k : Kt Bool} (hj : m[j]? = some (.pl out)) (q : k (!out.isEmpty) m c) : truK (.obj j) k m c := by
 unfold truK; show atP m[j]? _
 rw [hj]; exact q
theorem br_f {X Y : Prop} (h : Y) : br false X Y := h
theorem bZ1 : (ext P).attr (V "Low") (V "out") = true := by kernel_rfl
theorem bY6 {a b d e : Bool} {X : MV -> Prop} (h : X (b_ (!(a || b || d || e)))) : br (!a) (br (!b) (br (!d) (X (b_ (!e))) (X (b_ (!d)))) (X (b_ (!b)))) (X (b_ (!a))) := by
 cases a <;> cases b <;> cases d <;> exact h
theorem cE8 {v : MV} {l : List (Str × MV)} (h : m[i]? = some (.attrs l)) (hl : l.lookup (V "out") = some (.obj j)) (hj : m[j]? = some (.pl out)) (ho : bL4 out = true) (q : K (b_ (aA6 out)) m c) : run P HX G 0 (V "is_open") [.inst i (V "Low")] K m c := by
 have go : ∀ {K : Kt MV}, K (.obj j) m c -> getA (ext P) (.inst i (V "Low")) (V "out") K m c := fun q => dI3 h hl bZ1 q
 rw [dP0]
 refine go ?_
 refine eH6 hj ?_
 refine aA ho fun h1 h2 => ?_
 rcases List.eq_nil_or_concat out with e | ⟨L, s, e⟩
 ·subst e; exact q
 ·rw [List.concat_eq_append] at e
  subst e
  have ne : (L ++ [s]).isEmpty = false := by cases L <;> rfl
  show br (!!(L ++ [s]).isEmpty) _ _
  rw [ne]
  refine br_f ?_
  have hs : (L ++ [s]).getLast? = some s := List.getLast?_concat
  rw [hs] at h2
  unfold aA6 at q
  rw [hs] at q
  have sh : ∃ a r, s = .tup (.int a :: r) := by
   cases s with
   | tup l => cases l with
    | nil => exact nomatch h2
    | cons x r => cases x with
     | int a => exact ⟨a, r, rfl⟩
     | _ => exact nomatch h2
   | _ => exact nomatch h2
  obtain ⟨a, r, rfl⟩ := sh
  refine go (go (dQ7 hj (sub_i.mpr ?_)))
  have hn : ((L ++ [PV.tup (.int a :: r)]).length : Int) - 1 = (L.length : Nat) := by rw [zzB]; show ((L.length + 1 : Nat) : Int) - 1 = _; lia
  rw [hn]
  refine cL3 hj (by have := zzU h1; rw [zzB] at this; exact Nat.lt_of_succ_lt this) zzO (get0.mpr (ne_i.mpr (tru_b.mpr ?_)))
  have := bY6 (X := fun v => K v m c) q
  cases h21 : decide (a = 21) with
  | true => rw [h21] at this; exact this
  | false =>
   rw [h21] at this
   refine br_t (ne_i.mpr (tru_b.mpr ?_))
   cases h12 : decide (a = 12) with
   | true => rw [h12] at this; exact this
   | false =>
    rw [h12] at this
    refine br_t (ne_i.mpr (tru_b.mpr ?_))
    cases h13 : decide (a = 13) with
    | true => rw [h13] at this; exact this
    | false => rw [h13] at this; exact br_t (ne_i.mpr this)
variable {C : Cx} {N : Fns} {dd n : Nat} {H : How}
theorem cG9 (S : StaF C (ext P) N) (hG : Snd C N dd G) : Snd C N (dd + 1) (Oq G) := by
 intro x f args K m c hK e
 unfold Oq at e
 cases hf : f == V "is_open" with
 | false => rw [hf] at e; exact (hG.mono (Nat.le_succ dd)) x f args K m c hK e
 | true =>
  rw [hf] at e
  have hf := eq_of_beq hf
  subst hf
  revert e
  cases args with
  | nil => exact fun e => nO e
  | cons a r => cases a with
   | inst i cl => cases r with
    | cons => exact fun e => nO e
    | nil =>
     refine fun e => aA0 e fun hx e => aA hx fun h1 h2 => ?_
     have h1 := eq_of_beq h1
     have h2 := eq_of_beq h2
     subst h1 h2
     exact aS8 e fun l hl e => aB e fun v hv e => aQ4 e fun j hj e => aC9 e fun out ho e => aA0 e fun hq e => aH0 S hG hK (cE8 (v := v) hl (hj ▸ hv) ho hq e)
   | _ => exact fun e => nO e
theorem aT3 (S : StaF C (ext P) N) (hG : Snd C N dd G) (hK : Bd K) {x f : Str} {args : List MV} (e : runM P H G n x f args K m c) : c <= bigN /\ Good C N (dd + n + 1) x f args K m c :=
 aB (by unfold runM at e; exact e) fun fi hf e => aZ S (aR9 S hG) hf hK e
end
noncomputable def OfL (K : Kt MV) (sel : List Nat) (m : Mem) (c : Nat) : Kt MV := fun v m1 c1 => ∃ c2, (c <= c2 /\ c1 <= c2) /\ ((sel.length <= m1.length /\ (∃ p, v = .p p) /\ K v (putB sel sel m1 m) c2) ∨ ∃ l m2, m1 = m2 ++ [.pl l] /\ m2.length = sel.length /\ v = .obj sel.length /\ K (.obj m.length) (putB sel sel m2 m ++ [.pl l]) c2)
noncomputable abbrev sel1 : List Nat := List.range 40
noncomputable abbrev sel2 : List Nat := List.range 25 ++ 40 :: (List.range 14).map (· + 26)
section
variable {G : Orc} {x f : Str} {args : List MV} {K : Kt MV} {y y' : LD} {tl : Mem} {c c' : Nat} {p : PV} {l : List PV}
theorem cY9 : aI0 sel1 (LM y 25 tl) sel1 = some (LB y) := by kernel_rfl
theorem cT7 : aI0 sel2 (LM y 40 [.pl l]) sel2 = some (LB { y with out := l }) := by kernel_rfl
theorem dF3 : putB sel1 sel1 (LB y') (LM y 25 tl) = LM y' 25 tl := by kernel_rfl
theorem dE : putB sel2 sel2 (LB y') (LM y 40 [.pl l]) = LM { y' with out := y.out } 40 [.pl y'.out] := by kernel_rfl
theorem bQ3 (ha : args.map (renV sel1) = args) (h : G x f args (OfL K sel1 (LM y 25 tl) c) (LB y) c) : Of G x f args K (LM y 25 tl) c :=
 ⟨sel1, LB y, cY9, rfl, by rw [ha]; exact h⟩
theorem dR3 (ha : args.map (renV sel2) = args) (h : G x f args (OfL K sel2 (LM y 40 [.pl l]) c) (LB { y with out := l }) c) : Of G x f args K (LM y 40 [.pl l]) c :=
 ⟨sel2, LB { y with out := l }, cT7, rfl, by rw [ha]; exact h⟩
theorem bR7 (h : c <= c') (k : K (.p p) (LM y' 25 tl) c') : OfL K sel1 (LM y 25 tl) c (.p p) (LB y') c' := ⟨c', ⟨h, nR _⟩, .inl ⟨nR _, ⟨p, rfl⟩, by rw [dF3]; exact k⟩⟩
theorem dN2 (h : c <= c') (k : K (.p p) (LM { y' with out := y.out } 40 [.pl y'.out]) c') : OfL K sel2 (LM y 40 [.pl l]) c (.p p) (LB y') c' := ⟨c', ⟨h, nR _⟩, .inl ⟨nR _, ⟨p, rfl⟩, by rw [dE]; exact k⟩⟩
end
noncomputable def Lq : Bool -> T -> Prop
 | lp, .cons s r => Lq lp s /\ Lq lp r
 | lp, .blk l => Lq lp l
 | lp, .jump .brk => lp = true
 | lp, .jump .cont => lp = true
 | lp, .ask y n => Lq lp y /\ Lq lp n
 | _, .whil _ b => Lq true b
 | _, .dow _ b => Lq true b
 | _, .for_ _ _ _ _ b => Lq true b
 | lp, .try_ _ b h l => Lq lp b /\ Lq lp h /\ Lq false l
 | lp, .usg _ _ b => Lq lp b
 | _, .arr _ _ _ b => Lq true b
 | _, .pat _ _ _ _ b => Lq true b
 | _, _ => True
theorem eC7 {sp : List Spec} (t : T) : ∀ {lp D}, OkT sp lp D t -> Lq lp t := by
 induction t with
 | cons s r i1 i2 => exact fun h => ⟨i1 h.1, i2 h.2⟩
 | blk l ih => exact fun h => ih h
 | jump j => exact fun h => by cases j <;> first | exact h | exact h.elim | trivial
 | ask y n i1 i2 => exact fun h => h.elim (fun h => by obtain ⟨rfl, rfl, h3⟩ := h; exact ⟨h3, trivial⟩) fun h => ⟨i1 h.1, i2 h.2⟩
 | whil t b ih => exact fun h => ih h.2
 | dow t b ih => exact fun h => ih h.2
 | for_ a t b d e ih => exact fun h => ih h.2
 | try_ lid b h l i1 i2 i3 => exact fun h => ⟨i1 h.2.1, i2 h.2.2.1, i3 h.2.2.2⟩
 | usg w lid b ih => exact fun h => ih h.2.2
 | arr lid w s b ih => exact fun h => ih h.2
 | pat lid w s i b ih => exact fun h => ih h.2.2
 | _ => exact fun _ => trivial
noncomputable def LD.to (y : LD) (out : List PV) (labels : Nat) (vs ls : List PV) : LD := ⟨{ y.b with vars := vs, lids := ls }, y.rest, labels, out, y.targets⟩
noncomputable abbrev Lr := List PV × Nat × Nat
noncomputable def QL (y : LD) (r : Lr) (w c : Nat) (Z : LD -> Nat -> Prop) : Prop := ∀ vs ls c', y.b.vars <+: vs -> vs.length = r.2.2 + 1 -> c <= c' -> c' <= c + 6 * w -> Z (y.to (y.out ++ r.1) r.2.1 vs ls) c'
structure Lo (k : Nat) (lp : Bool) (y : LD) (tb ta vc : Nat) (t : T) : Prop where
 dep : dl t <= k
 ok : Ok t
 jl : Lq lp t
 vd : Vd y.b.vars t
 vk : Vk 1000 t
 tg : lp = true -> ∃ ts, y.targets = ts ++ [.tup [pn tb, pn ta]]
 tl : y.targets.length + W t <= 900000
 ol : y.out.length + W t <= 900000
 vl : y.vl = vc + 1
noncomputable def GS (k : Nat) : Orc := fun x f args K m c => x = V "Low" /\ f = V "stmt" /\ ∃ y t lp tb ta vc, args = [lwV, .p (enc t)] /\ m = LB y /\ isS t = true /\ Lo k lp y tb ta vc t /\ QL y (low t tb ta y.labels vc) (W t) c fun y' c' => K n_ (LB y') c'
section
variable {y y1 : LD} {r r₁ r₂ : Lr} {w w₁ w₂ c c₁ : Nat} {Z : LD -> Nat -> Prop} {l : List PV}
theorem aB3 (l : List PV) : ∀ x : LD, x.puts l = x.put l := by
 induction l with
 | nil => exact fun x => congrArg (fun o => ({ x with out := o } : LD)) (List.append_nil _).symm
 | cons s l ih => exact fun x => (ih (x.put [s])).trans (congrArg (fun o => ({ x with out := o } : LD)) (List.append_assoc ..))
theorem QL.seq (q : QL y r w c Z) (h1 : r.1 = r₁.1 ++ r₂.1) (h2 : r.2 = r₂.2) (hw : w₁ + w₂ <= w) : QL y r₁ w₁ c fun y1 c₁ => QL y1 r₂ w₂ c₁ Z := fun vs ls c₁ hp hl a1 a2 vs' ls' c' hp' hl' b1 b2 => by
 have := q vs' ls' c' (hp.trans hp') (by rw [h2]; exact hl') (nT a1 b1) (by lia)
 rw [h1, h2, <- List.append_assoc] at this
 exact this
theorem QL.step {lb : Nat} {vs ls : List PV} (q : QL y r w c Z) (h1 : r.1 = l ++ r₁.1) (h2 : r.2 = r₁.2) (hp : y.b.vars <+: vs) (hc : c <= c₁) (hw : c₁ + 6 * w₁ <= c + 6 * w) : QL (y.to (y.out ++ l) lb vs ls) r₁ w₁ c₁ Z := fun vs' ls' c' hp' hl b1 b2 => by
 have := q vs' ls' c' (hp.trans hp') (by rw [h2]; exact hl) (nT hc b1) (by lia)
 rw [h1, h2, <- List.append_assoc] at this
 exact this
theorem QL.fin {vs ls : List PV} (q : QL y r w c Z) (hp : y.b.vars <+: vs) (hl : vs.length = r.2.2 + 1) (hc : c <= c₁) (hw : c₁ <= c + 6 * w) : Z (y.to (y.out ++ r.1) r.2.1 vs ls) c₁ := q vs ls c₁ hp hl hc hw
theorem QL.mono {Z' : LD -> Nat -> Prop} (q : QL y r w c Z) (h : ∀ y c, Z y c -> Z' y c) : QL y r w c Z' := fun vs ls c' a b d e => h _ _ (q vs ls c' a b d e)
end
noncomputable def Ru (P : PI) (n : Nat) (G : Orc) : Orc := fun x f args K m c => runM P HA (Oq G) n x f args K m c
noncomputable def RuF (P : PI) (n : Nat) (G : Orc) : Orc := fun x f args K m c => runM P HFo G n x f args K m c
noncomputable def Up (P : PI) (n : Nat) (G : Orc) : Orc := fun x f args K m c => br (x == V "Low") (G x f args K m c) (x = V "" /\ runM P HA (Oq (Of G)) n x f args K m c)
section
variable {K : Kt MV} {y : LD} {r : Lr} {w c j k n tb ta vc : Nat} {l : List PV} {lp : Bool} {t a b h : T} {tl : Mem}
theorem bX {v : PV} : ([lwV, .p v] : List MV).map (renV sel1) = [lwV, .p v] := by kernel_rfl
theorem cR7 {v : PV} : ([lwV, .p v] : List MV).map (renV sel2) = [lwV, .p v] := by kernel_rfl
theorem eD1 (i : isS t = true) (L : Lo k lp y tb ta vc t) (q : QL y (low t tb ta y.labels vc) (W t) c fun y' c' => K n_ (LM y' 25 tl) c') : calM (Of (GS k)) "Low" "stmt" [lwV, .p (enc t)] K (LM y 25 tl) c :=
 bQ3 bX ⟨rfl, rfl, y, t, lp, tb, ta, vc, rfl, rfl, i, L, fun vs ls c' h1 h2 h3 h4 => bR7 h3 (q vs ls c' h1 h2 h3 h4)⟩
theorem cG4 (i : isS t = true) (L : Lo k lp y tb ta vc t) (q : QL y (low t tb ta y.labels vc) (W t) c fun y' c' => K n_ (LB y') c') : calM (Of (GS k)) "Low" "stmt" [lwV, .p (enc t)] K (LB y) c := eD1 (tl := []) i L q
theorem dY1 (i : isS t = true) (L : Lo k lp { y with out := [] } tb ta vc t) (q : QL { y with out := [] } (low t tb ta y.labels vc) (W t) c fun y' c' => K n_ (LM { y' with out := y.out } 40 [.pl y'.out]) c') : calM (Of (GS k)) "Low" "stmt" [lwV, .p (enc t)] K (LM y 40 [.pl []]) c :=
 dR3 cR7 ⟨rfl, rfl, { y with out := [] }, t, lp, tb, ta, vc, rfl, rfl, i, L, fun vs ls c' h1 h2 h3 h4 => dN2 h3 (q vs ls c' h1 h2 h3 h4)⟩
theorem lv2_ok : lv2 K n_ (LB y) c = K n_ (LB y) c := by kernel_rfl
theorem lvn_ok : lvL K n_ (LB y) c = K n_ (LB y) c := by kernel_rfl
theorem Lo.part {w : Nat} {lp' : Bool} (L : Lo k lp y tb ta vc t) (hd : dl a <= j) (ho : Ok a) (hl : Lq lp' a) (hv : Vd y.b.vars a) (hk : Vk 1000 a) (hw : w + W a <= W t) (hlp : lp' = true -> lp = true := by exact id) : y.out.length + W a <= 900000 /\ Lo j lp' y tb ta vc a :=
 ⟨by have := L.ol; lia, hd, ho, hl, hv, hk, fun h => L.tg (hlp h), by have := L.tl; lia, by have := L.ol; lia, L.vl⟩
theorem bR8 {vs vs' : List PV} (p : vs <+: vs') (t : T) : Vd vs t -> Vd vs' t := by
 have at_ : ∀ {i : Nat} {v : PV}, vs[i]? = some v -> vs'[i]? = some v := fun e => by
  obtain ⟨r, rfl⟩ := p
  exact (zzH (zzA.mp e).1).trans e
 induction t with
 | cons s r i1 i2 => exact fun h => ⟨i1 h.1, i2 h.2⟩
 | blk l ih => exact ih
 | ask y n i1 i2 => exact fun h => ⟨i1 h.1, i2 h.2⟩
 | whil t b ih => exact fun h => ⟨h.1, ih h.2⟩
 | dow t b ih => exact ih
 | for_ a t b d e ih => exact ih
 | try_ lid b h l i1 i2 i3 => exact fun h => ⟨h.1, i1 h.2.1, i2 h.2.2.1, i3 h.2.2.2⟩
 | usg w lid b ih => exact fun h => ⟨h.1.imp fun _ e => at_ e, ih h.2⟩
 | arr lid w s b ih => exact fun h => ⟨h.1.imp fun _ e => at_ e, ih h.2⟩
 | pat lid w s i b ih => exact fun h => ⟨h.1.imp fun _ e => at_ e, ih h.2⟩
 | _ => exact fun h => h
theorem Lo.to {o : List PV} {lb n : Nat} {vs ls : List PV} (L : Lo k lp y tb ta vc t) (hp : y.b.vars <+: vs) (ho : o.length + W t <= 900000) (hl : vs.length = n + 1) : Lo k lp (y.to o lb vs ls) tb ta n t :=
 ⟨L.dep, L.ok, L.jl, bR8 hp t L.vd, L.vk, L.tg, L.tl, ho, hl⟩
end
section
variable {P : PI} {G : Orc} {K : Kt MV} {y : LD} {r r₁ r₂ : Lr} {w c c₁ k n tb ta vc : Nat} {Z : LD -> Nat -> Prop} {l : List PV} {lp : Bool} {t a b h : T} {tl : Mem}
theorem QL.one {s : PV} {w : Nat} (q : QL y ([s], y.labels, vc) w c Z) (hv : y.vl = vc + 1) (hw : 1 <= w) : Z (y.put [s]) (c + 1) := QL.fin (vs := y.b.vars) (ls := y.b.lids) q zzR hv (nA _ _) (by lia)
theorem dV5 {x : Sx} (L : Lo k lp y tb ta vc (.ex x)) (q : QL y (low (.ex x) tb ta y.labels vc) (W (.ex x)) c fun y' c' => K n_ (LB y') c') : rS P G (enc (.ex x)) K (LB y) c := by
 have := QL.one q L.vl (by show 1 <= 6; decide)
 cases x <;> exact (l_1 ..).mpr this
theorem cK2 {i : Nat} {x : Nat} {ts : List PV} {l : List PV} (ht : y.targets = ts ++ [.tup l]) (hn : y.targets.length <= 900000) (hl : l[i]? = some (pn x)) (q : K n_ (LB (y.put [cGo x])) (c + 1)) : jmpF y K c i := by
 unfold jmpF
 have hlen : (y.targets.length : Int) - 1 = (ts.length : Nat) := by rw [ht, zzB]; show ((ts.length + 1 : Nat) : Int) - 1 = _; lia
 rw [hlen]
 refine aI1 (zzI (by rw [ht, zzB] at hn; exact zzF (Nat.lt_of_succ_le hn) (by decide))) ?_
 show som y.targets[ts.length]? _
 rw [ht, zzO]
 show som l[i]? _
 rw [hl]; exact q
theorem cO5 {jp : Jp} (L : Lo k lp y tb ta vc (.jump jp)) (q : QL y (low (.jump jp) tb ta y.labels vc) (W (.jump jp)) c fun y' c' => K n_ (LB y') c') : rS P (Ru P 2 G) (enc (.jump jp)) K (LB y) c := by
 cases jp with
 | brk => exact (l_10 ..).mpr ((eB8 ..).mpr (ex1 (L.tg L.jl) fun ts ht => cK2 ht (nT (nA _ _) L.tl) rfl (lv2_ok.mpr (QL.one q L.vl (by show 1 <= 5; decide)))))
 | cont => exact (l_11 ..).mpr ((dD3 ..).mpr (ex1 (L.tg L.jl) fun ts ht => cK2 ht (nT (nA _ _) L.tl) rfl (lv2_ok.mpr (QL.one q L.vl (by show 1 <= 5; decide)))))
 | ret ev => exact (l_12 ..).mpr (QL.one q L.vl (by show 1 <= 5; decide))
 | thr n => exact (l_13 ..).mpr (QL.one q L.vl (by show 1 <= 5; decide))
theorem cY4 (s : PV) (t : T) : ∀ {y : LD} {vc c : Nat} {loc : Loc}, (loc = [] ∨ ∃ v, loc = [(V "one", v)]) -> isS t = false -> Lo k lp y tb ta vc t -> QL y (low t tb ta y.labels vc) (W t) c (fun y' c' => K n_ (LB y') c') ->
  forL (lkF P (Of (GS k))) (lkK K) ((encL t).map .p) (locB s loc) (LB y) c := by
 induction t with
 | nil =>
  intro y vc c loc hl _ L q
  have := QL.fin (vs := y.b.vars) (ls := y.b.lids) (c₁ := c) q zzR L.vl (nR _) (nA _ _)
  have e : y.out ++ (low .nil tb ta y.labels vc).1 = y.out := List.append_nil _
  rw [e] at this
  exact lvn_ok.mpr this
 | cons t r _ ih =>
  intro y vc c loc hloc _ L q
  have h1 := aE7 t tb ta y.labels vc
  have Lt := (L.part (a := t) (w := W r) (nT (Nat.le_max_left _ _) L.dep) L.ok.2.2.1 L.jl.1 L.vd.1 L.vk.1 (by show W r + W t <= W t + W r; lia)).2
  have Lr := (L.part (a := r) (w := W t) (nT (Nat.le_max_right _ _) L.dep) L.ok.2.2.2 L.jl.2 L.vd.2 L.vk.2 (nR _)).2
  have go : calM (Of (GS k)) "Low" "stmt" [lwV, .p (enc t)] (fun _ => turn (lkK K) (forL (lkF P (Of (GS k))) (lkK K) ((encL r).map .p)) (.next, locB s [(V "one", .p (enc t))])) (LB y) c := by
   refine cG4 L.ok.1 Lt fun vs ls c' hp hl a1 a2 => ?_
   refine ih (.inr ⟨_, rfl⟩) L.ok.2.1 (Lr.to hp ?_ hl) ?_
   ·rw [zzB]; have := h1.1.len; have := bI6 t; have : y.out.length + (W t + W r) <= 900000 := L.ol; lia
   ·exact (QL.seq (r₁ := low t tb ta y.labels vc) (r₂ := low r tb ta (low t tb ta y.labels vc).2.1 (low t tb ta y.labels vc).2.2) q rfl rfl (nR _)) vs ls c' hp hl a1 a2
  refine hloc.elim (fun e => ?_) fun e => ex1 e fun v e => ?_
  ·subst e; exact (dW3 ..).mpr go
  ·subst e; exact (dZ2 ..).mpr go
 | _ => exact fun _ h => nomatch h
theorem dQ5 {l : T} (L : Lo (k + 5) lp y tb ta vc (.blk l)) (q : QL y (low (.blk l) tb ta y.labels vc) (W (.blk l)) c fun y' c' => K n_ (LB y') c') : rS P (Ru P 0 (Of (GS k))) (enc (.blk l)) K (LB y) c :=
 (l_3 ..).mpr ((eE5 ..).mpr (cY4 _ l (.inl rfl) L.ok.1 ⟨zzY L.dep, L.ok.2, L.jl, L.vd, L.vk, L.tg, L.tl, L.ol, L.vl⟩ (q.mono fun y c h => lv2_ok.mpr h)))
end
section
variable {P : PI} {G : Orc} {K : Kt MV} {y : LD} {r r₁ r₂ : Lr} {w w₁ w₂ c c₁ j k n tb ta vc bh ag : Nat} {Z : LD -> Nat -> Prop} {l : List PV} {lp : Bool} {t a b h : T} {tl : Mem} {ts : Tst}
theorem QL.tail (q : QL y r w c Z) (hr : r.2.1 = y.labels) (hv : y.vl = r.2.2 + 1) (hn : n <= 6 * w) : Z (y.put r.1) (c + n) := by
 have := QL.fin (vs := y.b.vars) (ls := y.b.lids) (c₁ := c + n) q zzR hv (nA _ _) (zzD hn _)
 rw [hr] at this
 exact this
theorem QL.puts {m : Nat} (l : List PV) (q : QL y r w c Z) (h1 : r.1 = l ++ r₁.1) (h2 : r.2 = r₁.2) (hw : n + 6 * w₁ <= 6 * w) : QL ((y.lab m).puts l) r₁ w₁ (c + n) Z := by
 rw [aB3]
 exact q.step (lb := y.labels + m) (vs := y.b.vars) (ls := y.b.lids) h1 h2 zzR (nA _ _) (by lia)
theorem Lo.puts {m : Nat} {l : List PV} (L : Lo k lp y tb ta vc t) (ho : y.out.length + (l.length + W t) <= 900000) : Lo k lp ((y.lab m).puts l) tb ta vc t := by
 rw [aB3]
 exact L.to (o := y.out ++ l) (lb := y.labels + m) (vs := y.b.vars) (ls := y.b.lids) zzR (by rw [zzB]; lia) L.vl
theorem dB9 {v : PV} {a b : Nat} : ([lwV, .p v, lN a, lN b] : List MV).map (renV sel1) = [lwV, .p v, lN a, lN b] := by kernel_rfl
theorem up_in {args : List MV} {m : Mem} : Up P n G (V "") (V "low_inside") args K m c = (V "" = V "" /\ rA P (Of G) n "" "low_inside" args K m c) := by kernel_rfl
theorem dE2 (i : isS b = true) (L : Lo k true { y with targets := y.targets ++ [.tup [pn bh, pn ag]] } bh ag vc b) (q : QL y (low b bh ag y.labels vc) (W b + 1) c fun y' c' => K n_ (LB y') c') : rA P (Of (GS k)) 0 "" "low_inside" [lwV, .p (enc b), lN bh, lN ag] K (LB y) c :=
 (z_in ..).mpr (cG4 i L fun vs ls c' h1 h2 h3 h4 => (eF8 ..).mpr (by
  show som (y.targets ++ [_]).getLast? _
  rw [List.getLast?_concat]
  show K n_ (LB ⟨_, _, _, _, (y.targets ++ [_]).dropLast⟩) c'
  rw [List.dropLast_concat]
  exact q vs ls c' h1 h2 (zzc h3) (by lia)))
theorem bT0 (i : isS b = true) (L : Lo k true { y with targets := y.targets ++ [.tup [pn bh, pn ag]] } bh ag vc b) (q : QL y (low b bh ag y.labels vc) (W b + 1) c fun y' c' => K n_ (LB y') c') : calM (Of (Up P 0 (GS k))) "" "low_inside" [lwV, .p (enc b), lN bh, lN ag] K (LB y) c :=
 bQ3 (tl := []) dB9 (up_in.mpr ⟨rfl, dE2 i L fun vs ls c' h1 h2 h3 h4 => bR7 h3 (q vs ls c' h1 h2 h3 h4)⟩)
theorem Lo.body {w m : Nat} {l : List PV} (L : Lo k lp y tb ta vc t) (hd : dl b <= j) (ho : Ok b) (hl : Lq true b) (hv : Vd y.b.vars b) (hk : Vk 1000 b) (hw : w + W b <= W t) (h1 : l.length + 1 <= w) : Lo j true { ((y.lab m).puts l) with targets := ((y.lab m).puts l).targets ++ [.tup [pn bh, pn ag]] } bh ag vc b := by
 rw [aB3]
 exact ⟨hd, ho, hl, hv, hk, fun _ => ⟨y.targets, rfl⟩, by have := L.tl; show (y.targets ++ [_]).length + _ <= _; rw [zzB]; show y.targets.length + 1 + W b <= _; lia, by have := L.ol; show (y.out ++ l).length + _ <= _; rw [zzB]; lia, L.vl⟩
theorem cN (L : Lo (k + 13) lp y tb ta vc (.whil ts b)) (q : QL y (low (.whil ts b) tb ta y.labels vc) (W (.whil ts b)) c fun y' c' => K n_ (LB y') c') (hn : ts ≠ .non) : rS P (Ru P 6 (Of (Up P 0 (GS k)))) (enc (.whil ts b)) K (LB y) c := by
 have q1 := QL.puts (m := 3) (n := 2) (w₁ := 20 + W b) (r₁ := ((low b (y.labels + 3) (y.labels + 2) (y.labels + 3) vc).1 ++ (cLab (y.labels + 2) :: (cTst ts (y.labels + 1) ++ [cLab (y.labels + 3)])), (low b (y.labels + 3) (y.labels + 2) (y.labels + 3) vc).2)) [cGo (y.labels + 2), cLab (y.labels + 1)] q rfl rfl (by show 2 + 6 * (20 + W b) <= 6 * (21 + W b); lia)
 have q2 := QL.seq (w₁ := W b + 1) (w₂ := 1) (r₁ := low b (y.labels + 3) (y.labels + 2) (y.labels + 3) vc) (r₂ := (cLab (y.labels + 2) :: (cTst ts (y.labels + 1) ++ [cLab (y.labels + 3)]), (low b (y.labels + 3) (y.labels + 2) (y.labels + 3) vc).2)) q1 rfl rfl (by lia)
 refine (l_5 ..).mpr ((z_wh ..).mpr (bT0 (vc := vc) L.ok.1 (L.body (w := 21) (zzY L.dep) L.ok.2 L.jl L.vd.2 L.vk (nR _) (show 3 <= 21 by decide)) fun vs ls c' h1 h2 h3 h4 => ?_))
 have z := q2 vs ls c' h1 h2 h3 h4
 cases ts with
 | ask => exact (eI ..).mpr (lv2_ok.mpr ((aB3 ..) ▸ z.tail (n := 3) rfl h2 (by decide)))
 | zero => exact (dX7 ..).mpr (lv2_ok.mpr ((aB3 ..) ▸ z.tail (n := 2) rfl h2 (by decide)))
 | one => exact (eD5 ..).mpr (lv2_ok.mpr ((aB3 ..) ▸ z.tail (n := 3) rfl h2 (by decide)))
 | non => exact absurd rfl hn
theorem dL1 (L : Lo (k + 13) lp y tb ta vc (.dow ts b)) (q : QL y (low (.dow ts b) tb ta y.labels vc) (W (.dow ts b)) c fun y' c' => K n_ (LB y') c') : rS P (Ru P 6 (Of (Up P 0 (GS k)))) (enc (.dow ts b)) K (LB y) c := by
 have q1 := QL.puts (m := 3) (n := 1) (w₁ := 20 + W b) (r₁ := ((low b (y.labels + 3) (y.labels + 2) (y.labels + 3) vc).1 ++ (cLab (y.labels + 2) :: (cTst ts (y.labels + 1) ++ [cLab (y.labels + 3)])), (low b (y.labels + 3) (y.labels + 2) (y.labels + 3) vc).2)) [cLab (y.labels + 1)] q rfl rfl (by show 1 + 6 * (20 + W b) <= 6 * (8 + (W b + 13)); lia)
 have q2 := QL.seq (w₁ := W b + 1) (w₂ := 1) (r₁ := low b (y.labels + 3) (y.labels + 2) (y.labels + 3) vc) (r₂ := (cLab (y.labels + 2) :: (cTst ts (y.labels + 1) ++ [cLab (y.labels + 3)]), (low b (y.labels + 3) (y.labels + 2) (y.labels + 3) vc).2)) q1 rfl rfl (by lia)
 refine (l_6 ..).mpr ((z_do ..).mpr (bT0 (vc := vc) L.ok.2.1 (L.body (w := 8) (zzY L.dep) L.ok.2.2 L.jl L.vd L.vk (by show 8 + W b <= 8 + (W b + 13); lia) (show 2 <= 8 by decide)) fun vs ls c' h1 h2 h3 h4 => ?_))
 have z := q2 vs ls c' h1 h2 h3 h4
 cases ts with
 | ask => exact (eH3 ..).mpr (lv2_ok.mpr ((aB3 ..) ▸ z.tail (n := 3) rfl h2 (by decide)))
 | zero => exact (dW2 ..).mpr (lv2_ok.mpr ((aB3 ..) ▸ z.tail (n := 2) rfl h2 (by decide)))
 | one => exact (eE ..).mpr (lv2_ok.mpr ((aB3 ..) ▸ z.tail (n := 3) rfl h2 (by decide)))
 | non => exact absurd rfl L.ok.1
theorem dC2 {e1 e2 e3 : Int} (L : Lo (k + 13) lp y tb ta vc (.for_ e1 ts e2 e3 b)) (q : QL y (low (.for_ e1 ts e2 e3 b) tb ta y.labels vc) (W (.for_ e1 ts e2 e3 b)) c fun y' c' => K n_ (LB y') c') : rS P (RuF P 6 (Of (Up P 0 (GS k)))) (enc (.for_ e1 ts e2 e3 b)) K (LB y) c := by
 have q1 := QL.puts (m := 4) (n := 3) (w₁ := 25 + W b) (r₁ := ((low b (y.labels + 4) (y.labels + 2) (y.labels + 4) vc).1 ++ ([cLab (y.labels + 2), sX (.say e2), sX (.say e3), cLab (y.labels + 3)] ++ (cTst ts (y.labels + 1) ++ [cLab (y.labels + 4)])), (low b (y.labels + 4) (y.labels + 2) (y.labels + 4) vc).2)) [sX (.say e1), cGo (y.labels + 3), cLab (y.labels + 1)] q rfl rfl (by show 3 + 6 * (25 + W b) <= 6 * (26 + W b); lia)
 have q2 := QL.seq (w₁ := W b + 1) (w₂ := 1) (r₁ := low b (y.labels + 4) (y.labels + 2) (y.labels + 4) vc) (r₂ := ([cLab (y.labels + 2), sX (.say e2), sX (.say e3), cLab (y.labels + 3)] ++ (cTst ts (y.labels + 1) ++ [cLab (y.labels + 4)]), (low b (y.labels + 4) (y.labels + 2) (y.labels + 4) vc).2)) q1 rfl rfl (by lia)
 refine (l_7 ..).mpr ((eH7 ..).mpr (bT0 (vc := vc) L.ok.1 (L.body (w := 26) (zzY L.dep) L.ok.2.2.2.2 L.jl L.vd L.vk (nR _) (show 4 <= 26 by decide)) fun vs ls c' h1 h2 h3 h4 => ?_))
 have z := q2 vs ls c' h1 h2 h3 h4
 cases ts with
 | ask => exact (dO3 ..).mpr (lv2_ok.mpr ((aB3 ..) ▸ z.tail (n := 6) rfl h2 (by decide)))
 | zero => exact (dS7 ..).mpr (lv2_ok.mpr ((aB3 ..) ▸ z.tail (n := 5) rfl h2 (by decide)))
 | one => exact (dR0 ..).mpr (lv2_ok.mpr ((aB3 ..) ▸ z.tail (n := 6) rfl h2 (by decide)))
 | non => exact (dS5 ..).mpr (lv2_ok.mpr ((aB3 ..) ▸ z.tail (n := 6) rfl h2 (by decide)))
theorem aM {a b : Bool} (h1 : a = true) (h2 : b = true) : (a && b) = true := by rw [h1, h2]; rfl
theorem cM5 {o l : List PV} (hf : ∀ s ∈ l, Flat s) (hl : o.length + (1 + l.length) < 1000000) {t : PV} {w : Int} {x : Nat} : bL4 (o ++ [cIf t w x] ++ l) = true := by
 unfold bL4
 refine aM (zzI (by rw [zzB, zzB]; show o.length + 1 + l.length + 1 <= _; lia)) ?_
 rcases List.eq_nil_or_concat l with e | ⟨l, s, e⟩
 ·subst e; rw [List.append_nil, List.getLast?_concat]; rfl
 ·rw [List.concat_eq_append] at e
  subst e
  rw [<- List.append_assoc, List.getLast?_concat]
  refine (hf s (List.mem_append_right _ (.head _))).elim (fun h => ?_) fun h => ?_
  ·obtain ⟨x, rfl⟩ := h; rfl
  ·obtain ⟨a, r, rfl, _⟩ := h; rfl
theorem cQ5 {o l : List PV} {s : PV} : aA6 (o ++ [s] ++ l) = aA6 (s :: l) := by
 rw [List.append_assoc]; exact aT5 (List.cons_ne_nil _ _)
theorem bA2 (t : T) (h : isS t = true) : (∃ l, enc t = .tup l) /\ aF7 t = false := by
 cases t with
 | nil => exact nomatch h
 | cons s r => exact nomatch h
 | ex x => cases x <;> exact ⟨⟨_, rfl⟩, rfl⟩
 | jump j => cases j <;> exact ⟨⟨_, rfl⟩, rfl⟩
 | _ => exact ⟨⟨_, rfl⟩, rfl⟩
theorem cN8 {o x1 : List PV} {e : Nat} {ya : PV} (hs : isS b = true) (ho : y.out = o ++ [cIf eAsk 0 e] ++ x1) (hf : ∀ s ∈ x1, Flat s) (L : Lo k lp y tb ta vc b) (hl : y.out.length + (2 + W b) <= 900000)
  (q : QL y ((goIf (aA6 (cIf eAsk 0 e :: x1)) (y.labels + 1) ++ [cLab e]) ++ ((low b tb ta (y.labels + 1) vc).1 ++ [cLab (y.labels + 1)]), (low b tb ta (y.labels + 1) vc).2) (2 + W b) c fun y' c' => K n_ (LB y') c') : tA P (Of (GS k)) 6 "LowIf" "low" 3 (locI (.tup [pi 4, eAsk, ya, enc b]) e []) K (LB y) c := by
 obtain ⟨⟨n, en⟩, -⟩ := bA2 b hs
 have hlen : o.length + (1 + x1.length) < 1000000 := by rw [ho, zzB, zzB] at hl; have hl : o.length + 1 + x1.length + (2 + W b) <= 900000 := hl; lia
 have last : ∀ {l : List PV} {c₁ : Nat}, QL ((y.lab 1).puts l) ((low b tb ta (y.labels + 1) vc).1 ++ [cLab (y.labels + 1)], (low b tb ta (y.labels + 1) vc).2) (1 + W b) c₁ (fun y' c' => K n_ (LB y') c') -> l.length <= 2 -> calM (Of (GS k)) "Low" "stmt" [lwV, .p (enc b)] (fun _ => tA P (Of (GS k)) 6 "LowIf" "low" 8 (locI (.tup [pi 4, eAsk, ya, enc b]) e [(V "behind", lN (y.labels + 1))]) K) (LB ((y.lab 1).puts l)) c₁ := fun {l c₁} q h => by
  refine cG4 (lp := lp) (tb := tb) (ta := ta) (vc := vc) hs (L.puts (m := 1) (by lia)) ?_
  rw [aB3] at q ⊢
  intro vs ls c' h1 h2 h3 h4
  have z := QL.seq (w₁ := W b) (w₂ := 1) (r₁ := low b tb ta (y.labels + 1) vc) (r₂ := ([cLab (y.labels + 1)], (low b tb ta (y.labels + 1) vc).2)) q rfl rfl (by lia) vs ls c' h1 h2 h3 h4
  exact (dX1 ..).mpr (z.tail (n := 1) rfl h2 (by decide))
 rw [en] at last ⊢
 refine (eB1 ..).mpr (aI1 (ho ▸ cM5 hf hlen) ?_)
 rw [show aA6 y.out = aA6 (cIf eAsk 0 e :: x1) from ho ▸ cQ5]
 cases hop : aA6 (cIf eAsk 0 e :: x1) with
 | true => rw [hop] at q; exact last (q.puts (m := 1) (n := 2) [cGo (y.labels + 1), cLab e] rfl rfl (by lia)) (nR _)
 | false => rw [hop] at q; exact last (q.puts (m := 1) (n := 1) [cLab e] rfl rfl (by lia)) (show 1 <= 2 by decide)
theorem eG2 (L : Lo (k + 11) lp y tb ta vc (.ask a b)) (q : QL y (low (.ask a b) tb ta y.labels vc) (W (.ask a b)) c fun y' c' => K n_ (LB y') c') : rS P (Ru P 6 (Of (GS k))) (enc (.ask a b)) K (LB y) c := by
 have La := (L.part (w := 13) (nT (Nat.le_max_left _ _) (zzY L.dep)) L.ok.2.2.1 L.jl.1 L.vd.1 L.vk.1 (by show 13 + W a <= 13 + (W a + W b); lia)).2
 have Lb := (L.part (w := 13 + W a) (nT (Nat.le_max_right _ _) (zzY L.dep)) L.ok.2.2.2 L.jl.2 L.vd.2 L.vk.2 (by show 13 + W a + W b <= 13 + (W a + W b); lia)).2
 have ol : y.out.length + (13 + (W a + W b)) <= 900000 := L.ol
 have h0 := aE7 a tb ta (y.labels + 1) vc
 have hw := bI6 a
 have hx := h0.1.len
 refine (l_4 ..).mpr ((z_if ..).mpr (cG4 (lp := lp) (tb := tb) (ta := ta) (vc := vc) L.ok.1 (La.puts (m := 1) (l := [cIf eAsk 0 (y.labels + 1)]) (by show y.out.length + (1 + W a) <= _; lia)) fun vs ls c' h1 h2 h3 h4 => ?_))
 refine L.ok.2.1.elim (fun hn => ?_) fun hs => ?_
 ·subst hn
  have q1 := QL.puts (m := 1) (n := 1) (w₁ := 12 + W a) (r₁ := ((low a tb ta (y.labels + 1) vc).1 ++ [cLab (y.labels + 1)], (low a tb ta (y.labels + 1) vc).2)) [cIf eAsk 0 (y.labels + 1)] q rfl rfl (by show 1 + 6 * (12 + W a) <= 6 * (13 + (W a + 0)); lia)
  have z := QL.seq (w₁ := W a) (w₂ := 1) (r₁ := low a tb ta (y.labels + 1) vc) (r₂ := ([cLab (y.labels + 1)], (low a tb ta (y.labels + 1) vc).2)) q1 rfl rfl (by lia) vs ls c' h1 h2 h3 h4
  exact (dZ ..).mpr (lv2_ok.mpr (z.tail (n := 1) rfl h2 (by decide)))
 ·have hl : low (.ask a b) tb ta y.labels vc = askL false (low a tb ta (y.labels + 1) vc) (low b tb ta ((low a tb ta (y.labels + 1) vc).2.1 + 1) (low a tb ta (y.labels + 1) vc).2.2) y.labels := by
   show askL (aF7 b) _ _ _ = _; rw [(bA2 b hs).2]
  rw [hl] at q
  have q1 := QL.puts (m := 1) (n := 1) (w₁ := 2 + (W a + W b)) (r₁ := ((low a tb ta (y.labels + 1) vc).1 ++ (goIf (aA6 (cIf eAsk 0 (y.labels + 1) :: (low a tb ta (y.labels + 1) vc).1)) ((low a tb ta (y.labels + 1) vc).2.1 + 1) ++ [cLab (y.labels + 1)]) ++ ((low b tb ta ((low a tb ta (y.labels + 1) vc).2.1 + 1) (low a tb ta (y.labels + 1) vc).2.2).1 ++ [cLab ((low a tb ta (y.labels + 1) vc).2.1 + 1)]), (low b tb ta ((low a tb ta (y.labels + 1) vc).2.1 + 1) (low a tb ta (y.labels + 1) vc).2.2).2)) [cIf eAsk 0 (y.labels + 1)] q rfl rfl (by show 1 + 6 * (2 + (W a + W b)) <= 6 * (13 + (W a + W b)); lia)
  have z := QL.seq (w₁ := W a) (w₂ := 2 + W b) (r₁ := low a tb ta (y.labels + 1) vc) (r₂ := ((goIf (aA6 (cIf eAsk 0 (y.labels + 1) :: (low a tb ta (y.labels + 1) vc).1)) ((low a tb ta (y.labels + 1) vc).2.1 + 1) ++ [cLab (y.labels + 1)]) ++ ((low b tb ta ((low a tb ta (y.labels + 1) vc).2.1 + 1) (low a tb ta (y.labels + 1) vc).2.2).1 ++ [cLab ((low a tb ta (y.labels + 1) vc).2.1 + 1)]), (low b tb ta ((low a tb ta (y.labels + 1) vc).2.1 + 1) (low a tb ta (y.labels + 1) vc).2.2).2)) q1 (List.append_assoc ..) rfl (by lia) vs ls c' h1 h2 h3 h4
  have hlen : (y.out ++ [cIf eAsk 0 (y.labels + 1)] ++ (low a tb ta (y.labels + 1) vc).1).length + (2 + W b) <= 900000 := by rw [zzB, zzB]; show y.out.length + 1 + _ + _ <= _; lia
  exact cN8 (o := y.out) (x1 := (low a tb ta (y.labels + 1) vc).1) (vc := (low a tb ta (y.labels + 1) vc).2.2) (lp := lp) hs rfl h0.1.flat (Lb.to h1 (nT (zzD (zzE (W b) 2) _) hlen) h2) hlen (z.mono fun y c h => lv2_ok.mpr h)
end
noncomputable def QK (y : LD) (r : Lr) (w c : Nat) (Z : PV -> LD -> Nat -> Prop) : Prop := ∀ vs ls c', y.b.vars <+: vs -> vs.length = r.2.2 + 1 -> c <= c' -> c' <= c + 6 * w -> Z (aA1 r.1) (y.to y.out r.2.1 vs ls) c'
section
variable {P : PI} {G : Orc} {K : Kt MV} {y : LD} {r : Lr} {w w₁ c c₁ j k n tb ta vc lid lb : Nat} {Z : LD -> Nat -> Prop} {vs ls : List PV} {lp : Bool} {t a b h f : T} {tl : Mem}
theorem QL.adv (q : QL y r w c Z) (hp : y.b.vars <+: vs) (hc : c <= c₁) (hw : c₁ + 6 * w₁ <= c + 6 * w) : QL (y.to y.out lb vs ls) r w₁ c₁ Z := fun vs' ls' c' hp' hl b1 b2 => q vs' ls' c' (hp.trans hp') hl (nT hc b1) (by lia)
theorem up_bl {args : List MV} {m : Mem} : Up P n G (V "") (V "low_block") args K m c = (V "" = V "" /\ rA P (Of G) n "" "low_block" args K m c) := by kernel_rfl
theorem dJ8 (i : isS t = true) (L : Lo k lp { y with out := [] } tb ta vc t) (q : QK y (low t tb ta y.labels vc) (W t) c fun v y' c' => K (.p v) (LB y') c') : rA P (Of (GS k)) 0 "" "low_block" [lwV, .p (enc t)] K (LB y) c :=
 (z_bl ..).mpr (dY1 i L fun vs ls c' h1 h2 h3 h4 => (eE8 (x := y.to y.out _ vs ls) ..).mpr (q vs ls c' h1 h2 h3 h4))
theorem bX8 (i : isS t = true) (L : Lo k lp { y with out := [] } tb ta vc t) (q : QK y (low t tb ta y.labels vc) (W t) c fun v y' c' => K (.p v) (LM y' 25 tl) c') : calM (Of (Up P 0 (GS k))) "" "low_block" [lwV, .p (enc t)] K (LM y 25 tl) c :=
 bQ3 bX (up_bl.mpr ⟨rfl, dJ8 i L fun vs ls c' h1 h2 h3 h4 => bR7 h3 (q vs ls c' h1 h2 h3 h4)⟩)
theorem Lo.block {w vc' : Nat} {lp' : Bool} (L : Lo k lp y tb ta vc t) (hd : dl a <= j) (ho : Ok a) (hl : Lq lp' a) (hv : Vd y.b.vars a) (hk : Vk 1000 a) (hw : w + W a <= W t) (hp : y.b.vars <+: vs) (hn : vs.length = vc' + 1) (hlp : lp' = true -> lp = true := by exact id) : Lo j lp' { y.to y.out lb vs ls with out := [] } tb ta vc' a :=
 (L.part hd ho hl hv hk hw hlp).2.to (o := []) hp (by have := L.ol; show 0 + W a <= 900000; lia) hn
theorem bG9 {s b' rows : PV} {rl : List PV} {loc : Loc} {w : Nat} (ht : rows = .tup rl) (hf : f = .nil ∨ isS f = true) (Lf : isS f = true -> Lo k false { y with out := [] } tb ta vc f)
  (hv : y.vl = vc + 1)
  (q : QL y ([sTry b' rows (cF5 (aF7 f) (low f tb ta y.labels vc).1)], (low f tb ta y.labels vc).2) (W f + 1) c fun y' c' => K n_ (LB y') c')
  (X : Prop) (h0 : f = .nil -> K n_ (LB (y.put [sTry b' rows .none])) (c + 1) -> X)
  (h1 : ∀ n, enc f = .tup n -> calM (Of (Up P 0 (GS k))) "" "low_block" [lwV, .p (enc f)] (fun v => tA P (Of (Up P 0 (GS k))) 2 "LowTry" "low" 5 (locY s (loc ++ [(V "last", v)])) K) (LM y 25 [.pl rl]) c -> X)
  (h2 : ∀ (y : LD) (l' : PV) c, tA P (Of (Up P 0 (GS k))) 2 "LowTry" "low" 5 (locY s (loc ++ [(V "last", .p l')])) K (LM y 25 [.pl rl]) c = K n_ (LB (y.put [sTry b' (.tup rl) l'])) (c + 1)) : X := by
 subst ht
 refine hf.elim (fun e => ?_) fun i => ?_
 ·subst e
  exact h0 rfl (q.tail (n := 1) rfl hv (by show 1 <= 6 * (0 + 1); decide))
 ·obtain ⟨⟨n, en⟩, hn⟩ := bA2 f i
  refine h1 n en (bX8 (lp := false) (tb := tb) (ta := ta) (vc := vc) i (Lf i) fun vs ls c' a1 a2 a3 a4 => (h2 ..).mpr ?_)
  rw [hn] at q
  exact (q.adv (lb := (low f tb ta y.labels vc).2.1) (ls := ls) (w₁ := 1) a1 a3 (by lia)).tail (n := 1) rfl a2 (by decide)
theorem dH2 (L : Lo (k + 9) lp y tb ta vc (.try_ lid b h f)) (q : QL y (low (.try_ lid b h f) tb ta y.labels vc) (W (.try_ lid b h f)) c fun y' c' => K n_ (LB y') c') : rS P (Ru P 2 (Of (Up P 0 (GS k)))) (enc (.try_ lid b h f)) K (LB y) c := by
 have hd := zzW.mp (zzY L.dep)
 have hd2 := zzW.mp hd.2
 have hw : W (.try_ lid b h f) = 32 + (W b + (W h + W f)) := rfl
 refine (l_14 ..).mpr ((eE3 ..).mpr (bX8 (tl := []) (lp := lp) (tb := tb) (ta := ta) (vc := vc) L.ok.1 (L.block (w := 0) (lb := y.labels) (ls := y.b.lids) hd.1 L.ok.2.2.2.1 L.jl.1 L.vd.2.1 L.vk.2.1 (by lia) zzR L.vl) fun vs ls c₁ a1 a2 a3 a4 => ?_))
 have q1 := q.adv (lb := (low b tb ta y.labels vc).2.1) (ls := ls) (w₁ := 32 + (W h + W f)) a1 a3 (by lia)
 have Lf : ∀ {vs' ls' : List PV} {lb' vc' : Nat}, y.b.vars <+: vs' -> vs'.length = vc' + 1 -> isS f = true -> Lo k false { y.to y.out lb' vs' ls' with out := [] } tb ta vc' f := fun p n _ => L.block (w := 0) hd2.2 L.ok.2.2.2.2.2 L.jl.2.2 L.vd.2.2.2 L.vk.2.2.2 (by lia) p n (fun h => nomatch h)
 have q2 := q1.mono (Z' := fun y' c' => lv2 K n_ (LB y') c') fun y c z => lv2_ok.mpr z
 match lid, L, q2 with
 | 0, L, q2 =>
  cases L.vd.1 rfl
  exact bG9 (y := y.to y.out (low b tb ta y.labels vc).2.1 vs ls) (rows := .tup []) (rl := []) (s := sTry (enc b) (.tup []) (enc f)) (loc := [(V "body", .p (aA1 (low b tb ta y.labels vc).1)), (V "rows", .obj 40)]) (w := 0) rfl L.ok.2.2.1 (Lf a1 a2) a2 (q2.adv (vs := vs) (ls := ls) (lb := (low b tb ta y.labels vc).2.1) (w₁ := W f + 1) zzR (nR _) (by lia)) _ (fun e z => by subst e; exact (eA4 ..).mpr z) (fun n en z => by show tA P _ 2 "LowTry" "low" 1 (locY (sTry (enc b) (.tup []) (enc f)) _) _ _ _; rw [en] at z ⊢; exact (eC5 ..).mpr z) fun y l' c => eA5 ..
 | m + 1, L, q2 =>
  have hi : isS h = true := L.ok.2.1.resolve_left (Nat.succ_ne_zero _)
  refine (eI3 ..).mpr (bX8 (lp := lp) (tb := tb) (ta := ta) (vc := (low b tb ta y.labels vc).2.2) hi (L.block (w := 0) (lb := (low b tb ta y.labels vc).2.1) (ls := ls) hd2.1 L.ok.2.2.2.2.1 L.jl.2.1 L.vd.2.2.1 L.vk.2.2.1 (by lia) a1 a2) fun vs' ls' c2 b1 b2 b3 b4 => ?_)
  have q3 := q2.adv (lb := (low h tb ta (low b tb ta y.labels vc).2.1 (low b tb ta y.labels vc).2.2).2.1) (vs := vs') (ls := ls') (c₁ := c2 + 1) (w₁ := W f + 1) b1 (by lia) (by lia)
  exact bG9 (y := y.to y.out (low h tb ta (low b tb ta y.labels vc).2.1 (low b tb ta y.labels vc).2.2).2.1 vs' ls') (s := sTry (enc b) (rowV (m + 1) (enc h)) (enc f)) (loc := [(V "body", .p (aA1 (low b tb ta y.labels vc).1)), (V "rows", .obj 40), (V "row", .p (.tup [pi (-1), pn (m + 1), .none, enc h]))]) (w := 0) (rows := rowV (m + 1) (aA1 (low h tb ta (low b tb ta y.labels vc).2.1 (low b tb ta y.labels vc).2.2).1)) rfl L.ok.2.2.1 (Lf (a1.trans b1) b2) b2 q3 _ (fun e z => by subst e; exact (dX0 ..).mpr z) (fun n en z => by show hdlL P _ _ (sTry (enc b) _ (enc f)) _ _ _ _ _ _; rw [en] at z ⊢; exact (eG3 ..).mpr z) fun y l' c => eF0 ..
end
section
variable {P : PI} {G : Orc} {K : Kt MV} {y : LD} {r r₁ r₂ : Lr} {w w₁ w₂ c c₁ j k n tb ta vc bh ag lid lb : Nat} {l : List PV} {vs ls : List PV} {lp wd : Bool} {t b h : T} {tl : Mem} {kd fl : Int} {nm : Str}
theorem cZ6 {Kc : Kt MV} {m : Mem} : getA (ext P) (.p (varV lid nm kd fl)) (V "kind") Kc m c = Kc (i_ kd) m c := by kernel_rfl
theorem at_2 : tupV [i_ 2, i_ kd, .p (pn lid)] (lvL K) (LB y) c = K (.p (eLoc kd lid)) (LB y) c := by kernel_rfl
theorem up_at {args : List MV} {m : Mem} : Up P n G (V "") (V "local_at") args K m c = (V "" = V "" /\ runM P HA (Oq (Of G)) n (V "") (V "local_at") args K m c) := by kernel_rfl
theorem dH7 : ([lwV, .p (pn lid)] : List MV).map (renV sel1) = [lwV, .p (pn lid)] := by kernel_rfl
theorem bE {Kk : Kt MV} (hv : y.b.vars[lid]? = some (varV lid nm kd fl)) (hl : lid <= 1000) (q : Kk (i_ kd) (LB y) c) : chk (Nat.blt lid 1000000) (som y.b.vars[lid]? fun v => getA (ext P) (.p v) (V "kind") Kk (LB y) c) := by
 refine aI1 (zzI (zzG hl (by decide))) ?_
 rw [hv]; exact (cZ6 (P := P) (lid := lid) (nm := nm) (kd := kd) (fl := fl)).mpr q
theorem bE4 {Kk : Kt MV} (hv : y.b.vars[lid]? = some (varV lid nm kd fl)) (hl : lid <= 1000) (q : Kk (i_ kd) (LB y) c) : aW7 P y c lid Kk := by unfold aW7; exact bE hv hl q
theorem cW8 (hv : y.b.vars[lid]? = some (varV lid nm kd fl)) (hl : lid <= 1000) (q : K (.p (eLoc kd lid)) (LB y) c) : calM (Of (Up P 0 G)) "" "local_at" [lwV, .p (pn lid)] K (LB y) c := by
 refine bQ3 (tl := []) dH7 (up_at.mpr ⟨rfl, (z_at ..).mpr ?_⟩)
 exact bE (Kk := fun k => tupV [i_ 2, k, .p (pn lid)] (lvL _)) hv hl (at_2.mpr (bR7 (nR _) q))
theorem cG8 {vs : List PV} {v : PV} (h : y.b.vars[lid]? = some v) (p : y.b.vars <+: vs) : vs[lid]? = some v := by
 obtain ⟨r, rfl⟩ := p
 exact (zzH (zzA.mp h).1).trans h
theorem cC0 {u : Nat} (q : QL y ([tryU u lid (y.labels + 1) (aA1 l)], (y.labels + 1, vc)) 31 c fun y' c' => K n_ (LB y') c') (hv : y.vl = vc + 1) (hn : n <= 15) : K n_ (LB ((y.lab 1).put [tryU u lid (y.labels + 1) (aA1 l)])) (c + n) :=
 QL.fin (vs := y.b.vars) (ls := y.b.lids) (c₁ := c + n) q zzR hv (nA _ _) (by lia)
theorem dM6 {u : Nat} (L : Lo (k + 17) lp y tb ta vc (.usg u lid b)) (q : QL y (low (.usg u lid b) tb ta y.labels vc) (W (.usg u lid b)) c fun y' c' => K n_ (LB y') c') : rS P (Ru P 10 (Of (Up P 0 (GS k)))) (enc (.usg u lid b)) K (LB y) c := by
 refine ex1 L.vd.1 fun nm hv => (l_15 ..).mpr ((z_us ..).mpr (cW8 hv L.vk.1 ?_))
 have q1 : QL (y.put [cUse u lid]) ([tryU u lid ((low b tb ta y.labels vc).2.1 + 1) (aA1 (low b tb ta y.labels vc).1)], ((low b tb ta y.labels vc).2.1 + 1, (low b tb ta y.labels vc).2.2)) (31 + W b) (c + 1) fun y' c' => lv2 K n_ (LB y') c' :=
  (QL.puts (m := 0) (n := 1) (w₁ := 31 + W b) (r₁ := ([tryU u lid ((low b tb ta y.labels vc).2.1 + 1) (aA1 (low b tb ta y.labels vc).1)], ((low b tb ta y.labels vc).2.1 + 1, (low b tb ta y.labels vc).2.2))) [cUse u lid] q rfl rfl (by show 1 + 6 * (31 + W b) <= 6 * (32 + W b); lia)).mono fun y c z => lv2_ok.mpr z
 exact (dW7 ..).mpr (bX8 (tl := []) (lp := lp) (tb := tb) (ta := ta) (vc := vc) L.ok.1 (L.block (w := 32) (lb := y.labels) (ls := y.b.lids) (zzY L.dep) L.ok.2 L.jl L.vd.2 L.vk.2 (nR _) zzR L.vl) fun vs ls c' a1 a2 a3 a4 => (eH9 ..).mpr (cC0 (n := utc u) (q1.adv a1 a3 (by lia)) a2 (nT (dD u) (by decide))))
theorem LD.tmp_vl {k : Int} : (y.tmp k).vl = y.vl + 1 := zzB
theorem up_arr {args : List MV} {m : Mem} : Up P n G (V "") (V "low_over_array") args K m c = (V "" = V "" /\ rA P (Of G) n "" "low_over_array" args K m c) := by kernel_rfl
noncomputable abbrev bJ2 (y : LD) : List PV := ((y.tmp 21).tmp 7).b.vars
noncomputable abbrev arrS (y : LD) (src : Option Nat) (lid : Nat) (wd : Bool) : List PV := [cArr y.vl src, cIdx (y.vl + 1), cGo (y.labels + 3), cLab (y.labels + 1), aL4 lid wd y.vl (y.vl + 1)]
theorem cS7 {src : Option Nat} : (yArr y (eSrc src)).put [aL4 lid wd y.vl (y.tmp 21).vl] = y.to (y.out ++ arrS y src lid wd) (y.labels + 4) (bJ2 y) ((y.tmp 21).tmp 7).b.lids := by
 unfold yArr
 rw [aB3, LD.tmp_vl]
 exact congrArg (fun o => (⟨_, _, _, o, _⟩ : LD)) (List.append_assoc ..)
theorem bC9 : y.b.vars <+: bJ2 y := (List.prefix_append _ _).trans (List.prefix_append _ _)
theorem cN7 : (bJ2 y).length = y.vl + 2 := by rw [show (bJ2 y).length = (y.tmp 21).vl + 1 from zzB, LD.tmp_vl]
theorem dU6 {e : PV} : (yArr y e).b.vars = bJ2 y := by unfold yArr; rw [aB3]; rfl
theorem Lo.bodyTo {w n : Nat} {o : List PV} (L : Lo k lp y tb ta vc t) (hd : dl b <= j) (ho : Ok b) (hl : Lq true b) (hv : Vd y.b.vars b) (hk : Vk 1000 b) (hw : w + W b <= W t) (hp : y.b.vars <+: vs) (hn : vs.length = n + 1) (hol : o.length + 1 <= y.out.length + w) (h1 : 1 <= w) : Lo j true { y.to o lb vs ls with targets := y.targets ++ [.tup [pn bh, pn ag]] } bh ag n b :=
 ⟨hd, ho, hl, bR8 hp b hv, hk, fun _ => ⟨y.targets, rfl⟩, by have := L.tl; show (y.targets ++ [_]).length + _ <= _; rw [zzB]; show y.targets.length + 1 + W b <= _; lia, by have := L.ol; show o.length + _ <= _; lia, hn⟩
theorem cO8 {K₁ : Kt MV} {x : LD} {e eb : PV} {v i t : Nat} (rest : ∀ c₁, c <= c₁ -> c₁ <= c + 36 -> calM G "" "low_inside" [lwV, .p eb, lN (t + 4), lN (t + 2)] (fun _ => tA P G 12 "" "low_over_array" 14 (aK1 (sArr lid e eb wd) e v i t) K₁) (LB (x.put [aL4 lid wd v i])) c₁) : effT P G K₁ "low_over_array" 12 3 [i_ 22, i_ (kW wd)] (aK1 (sArr lid e eb wd) e v i t) (.p (eLoc (kW wd) lid)) (LB x) c := by
 revert rest
 match wd with
 | false => exact fun rest => (z_q4 ..).mpr (rest (c + 21) (nA _ _) (by lia))
 | true => exact fun rest => (z_q5 ..).mpr (rest (c + 36) (nA _ _) (by lia))
theorem dM7 {src : Option Nat} (L : Lo (k + 22) lp y tb ta vc (.arr lid wd src b)) (q : QL y (low (.arr lid wd src b) tb ta y.labels vc) (W (.arr lid wd src b)) c fun y' c' => K n_ (LB y') c') : rS P (Ru P 0 (Up P 12 (Up P 0 (GS k)))) (enc (.arr lid wd src b)) K (LB y) c := by
 have hvl : y.vl = vc + 1 := L.vl
 have hW : W (.arr lid wd src b) = 27 + 3 * (26 + W b) := rfl
 refine ex1 L.vd.1 fun nm hv => (l_8 ..).mpr ((z_fa ..).mpr (up_arr.mpr ⟨rfl, ?_⟩))
 have q0 : QL y (low (.arr lid wd src b) tb ta y.labels vc) (W (.arr lid wd src b)) c fun y' c' => (fun _ => lvL (lv2 K) n_ : Kt MV) n_ (LB y') c' := q.mono fun y c z => lvn_ok.mpr (lv2_ok.mpr z)
 generalize (fun _ => lvL (lv2 K) n_ : Kt MV) = K₁ at q0 ⊢
 have rest : ∀ c₁, c <= c₁ -> c₁ <= c + 44 -> calM (Of (Up P 0 (GS k))) "" "low_inside" [lwV, .p (enc b), lN (y.labels + 4), lN (y.labels + 2)] (fun _ => tA P (Of (Up P 0 (GS k))) 12 "" "low_over_array" 14 (aK1 (sArr lid (eSrc src) (enc b) wd) (eSrc src) y.vl (y.tmp 21).vl y.labels) K₁) (LB ((yArr y (eSrc src)).put [aL4 lid wd y.vl (y.tmp 21).vl])) c₁ := fun c₁ e1 e2 => by
  have q1 := QL.step (l := arrS y src lid wd) (lb := y.labels + 4) (vs := bJ2 y) (ls := ((y.tmp 21).tmp 7).b.lids) (c₁ := c₁) (w₁ := 4 + W b) (r₁ := ((low b (y.labels + 4) (y.labels + 2) (y.labels + 4) (vc + 2)).1 ++ [cLab (y.labels + 2), cInc (vc + 2), cLab (y.labels + 3), cIf (aQ1 (vc + 2) (vc + 1)) 1 (y.labels + 1), cLab (y.labels + 4)], (low b (y.labels + 4) (y.labels + 2) (y.labels + 4) (vc + 2)).2)) q0 (by show _ = [cArr y.vl src, cIdx (y.vl + 1), _, _, aL4 lid wd y.vl (y.vl + 1)] ++ _; rw [hvl]; rfl) rfl bC9 e1 (by lia)
  rw [cS7]
  refine bT0 (vc := vc + 2) L.ok.1 (L.bodyTo (w := 27) (zzY L.dep) L.ok.2.2 L.jl L.vd.2 L.vk.2 (by lia) bC9 (by rw [cN7, hvl]) (by rw [zzB]; show _ + 5 + 1 <= _; lia) (by decide)) fun vs' ls' c' h1 h2 h3 h4 => ?_
  have z := QL.seq (w₁ := W b + 1) (w₂ := 3) (r₁ := low b (y.labels + 4) (y.labels + 2) (y.labels + 4) (vc + 2)) (r₂ := ([cLab (y.labels + 2), cInc (vc + 2), cLab (y.labels + 3), cIf (aQ1 (vc + 2) (vc + 1)) 1 (y.labels + 1), cLab (y.labels + 4)], (low b (y.labels + 4) (y.labels + 2) (y.labels + 4) (vc + 2)).2)) q1 rfl rfl (by lia) vs' ls' c' h1 h2 h3 h4
  rw [LD.tmp_vl, hvl]
  exact (z_q6 ..).mpr ((aB3 ..) ▸ z.tail (n := 8) rfl h2 (by decide))
 have mid : aW7 P (yArr y (eSrc src)) (c + 8) lid (effT P (Of (Up P 0 (GS k))) K₁ "low_over_array" 12 2 [i_ 22] (aK1 (sArr lid (eSrc src) (enc b) wd) (eSrc src) y.vl (y.tmp 21).vl y.labels)) := by
  have hv' : (yArr y (eSrc src)).b.vars[lid]? = some (varV lid nm (kW wd) 0) := dU6 ▸ cG8 hv bC9
  exact bE4 hv' L.vk.1 ((z_q3 ..).mpr (cW8 hv' L.vk.1 (cO8 fun c₁ e1 e2 => rest c₁ (by lia) (by lia))))
 cases src with
 | none => exact (z_q1 ..).mpr mid
 | some r => exact (z_q2 ..).mpr mid
end
noncomputable def sB : Bool -> Nat
 | true => 0
 | false => 3
section
variable {P : PI} {G : Orc} {K : Kt MV} {y : LD} {r₁ r₂ : Lr} {w w₁ w₂ c c₁ k n tb ta vc lid lb v : Nat} {l : List PV} {vs ls : List PV} {lp wd cl : Bool} {t b : T} {tl : Mem} {kd : Int} {nm : Str} {e eb get disp : PV}
theorem dT5 {x : LD} {t : Nat} (rest : ∀ c₁, c <= c₁ -> c₁ <= c + 35 -> calM G "" "low_inside" [lwV, .p eb, lN (t + 3), lN (t + 2)] (fun _ => tA P G 12 "" "low_rounds" 9 (aF8 lid e eb get (sB cl) disp wd v t) K) (LB (x.put [cNow lid wd v (sB cl)])) c₁) : effT P G K "low_rounds" 7 3 [i_ 22, i_ (kW wd)] (aF8 lid e eb get (sB cl) disp wd v t) (.p (eLoc (kW wd) lid)) (LB x) c := by
 revert rest
 match cl, wd with
 | true, false => exact fun rest => (eD8 ..).mpr (rest (c + 20) (nA _ _) (by lia))
 | true, true => exact fun rest => (dV7 ..).mpr (rest (c + 35) (nA _ _) (by lia))
 | false, false => exact fun rest => (dV9 ..).mpr (rest (c + 20) (nA _ _) (by lia))
 | false, true => exact fun rest => (eG6 ..).mpr (rest (c + 35) (nA _ _) (by lia))
theorem rd_1 (q : aW7 P ((y.lab 3).puts [cGo (y.labels + 2), cLab (y.labels + 1)]) (c + 2) lid (effT P G K "low_rounds" 7 2 [i_ 22] (aF8 lid e eb get (sB cl) disp wd v y.labels))) : rA P G 12 "" "low_rounds" [lwV, .p (sPat lid e eb get (sB cl) disp wd), .p (eLoc (aA7 (sB cl)) v)] K (LB y) c := by
 revert q
 match cl with
 | true => exact fun q => (eH0 ..).mpr q
 | false => exact fun q => (eC8 ..).mpr q
theorem rd_4 {t : Nat} (q : K n_ (LB (y.puts [cLab (t + 2), cIf (aI5 v (sB cl)) 1 (t + 1), cLab (t + 3)])) (c + 4)) : tA P G 12 "" "low_rounds" 9 (aF8 lid e eb get (sB cl) disp wd v t) K (LB y) c := by
 revert q
 match cl with
 | true => exact fun q => (eG0 ..).mpr q
 | false => exact fun q => (eE2 ..).mpr q
theorem dT8 (i : isS b = true) (hv : y.b.vars[lid]? = some (varV lid nm (kW wd) 0)) (hl : lid <= 1000) (Lb : ∀ o : List PV, o.length <= y.out.length + 3 -> Lo k true { y.to o (y.labels + 3) y.b.vars y.b.lids with targets := y.targets ++ [.tup [pn (y.labels + 3), pn (y.labels + 2)]] } (y.labels + 3) (y.labels + 2) vc b)
  (q : QL y (lowR lid wd (sB cl) v y.labels (low b (y.labels + 3) (y.labels + 2) (y.labels + 3) vc).1, (low b (y.labels + 3) (y.labels + 2) (y.labels + 3) vc).2) (10 + W b) c fun y' c' => K n_ (LB y') c') : rA P (Of (Up P 0 (GS k))) 12 "" "low_rounds" [lwV, .p (sPat lid e (enc b) get (sB cl) disp wd), .p (eLoc (aA7 (sB cl)) v)] K (LB y) c := by
 have e1 : ((y.lab 3).puts [cGo (y.labels + 2), cLab (y.labels + 1)]).b.vars = y.b.vars := by rw [aB3]; rfl
 refine rd_1 (bE4 (e1 ▸ hv) hl ((z_r2 ..).mpr (cW8 (e1 ▸ hv) hl (dT5 fun c₁ h1 h2 => ?_))))
 have q1 := QL.step (l := [cGo (y.labels + 2), cLab (y.labels + 1), cNow lid wd v (sB cl)]) (lb := y.labels + 3) (vs := y.b.vars) (ls := y.b.lids) (c₁ := c₁) (w₁ := 3 + W b) (r₁ := ((low b (y.labels + 3) (y.labels + 2) (y.labels + 3) vc).1 ++ [cLab (y.labels + 2), cIf (aI5 v (sB cl)) 1 (y.labels + 1), cLab (y.labels + 3)], (low b (y.labels + 3) (y.labels + 2) (y.labels + 3) vc).2)) q rfl rfl zzR (by lia) (by lia)
 have e2 : ((y.lab 3).puts [cGo (y.labels + 2), cLab (y.labels + 1)]).put [cNow lid wd v (sB cl)] = y.to (y.out ++ [cGo (y.labels + 2), cLab (y.labels + 1), cNow lid wd v (sB cl)]) (y.labels + 3) y.b.vars y.b.lids := by
  rw [aB3]; exact congrArg (fun o => (⟨_, _, _, o, _⟩ : LD)) (List.append_assoc ..)
 rw [e2]
 refine bT0 (vc := vc) i (Lb _ (by rw [zzB]; exact nR _)) fun vs' ls' c' a1 a2 a3 a4 => ?_
 have z := QL.seq (w₁ := W b + 1) (w₂ := 2) (r₁ := low b (y.labels + 3) (y.labels + 2) (y.labels + 3) vc) (r₂ := ([cLab (y.labels + 2), cIf (aI5 v (sB cl)) 1 (y.labels + 1), cLab (y.labels + 3)], (low b (y.labels + 3) (y.labels + 2) (y.labels + 3) vc).2)) q1 rfl rfl (by lia) vs' ls' c' a1 a2 a3 a4
 exact rd_4 ((aB3 ..) ▸ z.tail (n := 4) rfl a2 (by decide))
theorem up_rd {args : List MV} {m : Mem} : Up P n G (V "") (V "low_rounds") args K m c = (V "" = V "" /\ rA P (Of G) n "" "low_rounds" args K m c) := by kernel_rfl
theorem up_pt {args : List MV} {m : Mem} : Up P n G (V "") (V "low_over_pattern") args K m c = (V "" = V "" /\ rA P (Of G) n "" "low_over_pattern" args K m c) := by kernel_rfl
theorem dB5 {s d : PV} : ([lwV, .p s, .p d] : List MV).map (renV sel1) = [lwV, .p s, .p d] := by kernel_rfl
theorem cM6 {s d : PV} : ([lwV, .p s, .p d] : List MV).map (renV sel2) = [lwV, .p s, .p d] := by kernel_rfl
noncomputable abbrev patS (y : LD) (kd : Int) (o : List PV) : LD := y.to o y.labels (y.tmp kd).b.vars (y.tmp kd).b.lids
theorem tmp_pre {kd : Int} : y.b.vars <+: (y.tmp kd).b.vars := List.prefix_append _ _
section
variable {sort idx : Nat} (L : Lo (k + 32) lp y tb ta vc (.pat lid wd sort idx b)) (q : QL y (low (.pat lid wd sort idx b) tb ta y.labels vc) (W (.pat lid wd sort idx b)) c fun y' c' => K n_ (LB y') c')
include L q
omit q in
theorem dJ4 {o : List PV} {K' : Kt MV} {c₀ : Nat} (ho : o.length <= y.out.length + 1) (q' : QL (patS y kd o) (lowR lid wd (sB cl) y.vl y.labels (low b (y.labels + 3) (y.labels + 2) (y.labels + 3) (vc + 1)).1, (low b (y.labels + 3) (y.labels + 2) (y.labels + 3) (vc + 1)).2) (10 + W b) c₀ fun y' c' => K' n_ (LB y') c') : rA P (Of (Up P 0 (GS k))) 12 "" "low_rounds" [lwV, .p (sPat lid e (enc b) get (sB cl) disp wd), .p (eLoc (aA7 (sB cl)) y.vl)] K' (LB (patS y kd o)) c₀ := by
 refine ex1 L.vd.1 fun nm hv => dT8 (vc := vc + 1) L.ok.1 (cG8 hv tmp_pre) L.vk.1 (fun o' ho' => ?_) q'
 exact L.bodyTo (w := 64) (o := o') (vs := (y.tmp kd).b.vars) (ls := (y.tmp kd).b.lids) (lb := y.labels + 3) (zzY L.dep) L.ok.2 L.jl L.vd.2 L.vk.2 (by show 64 + W b <= 64 + 3 * (19 + W b); lia) tmp_pre (by rw [show (y.tmp kd).b.vars.length = y.vl + 1 from LD.tmp_vl, L.vl]) (by have : o'.length <= o.length + 3 := ho'; lia) (by decide)
theorem dR5 (hn : ∀ x z g c, patL (hasD sort) g c x z = (g :: c, x.2)) (hc : lowR lid wd sort = lowR lid wd (sB cl)) : calM (Of (Up P 12 (Up P 0 (GS k)))) "" "low_rounds" [lwV, .p (sPat lid e (enc b) get (sB cl) disp wd), .p (eLoc (aA7 (sB cl)) y.vl)] (fun _ => lvL K n_) (LB ((y.tmp kd).put [cGet y.vl sort idx])) (c + 3) := by
 have hvl : y.vl = vc + 1 := L.vl
 have hl : low (.pat lid wd sort idx b) tb ta y.labels vc = (cGet y.vl sort idx :: lowR lid wd (sB cl) y.vl y.labels (low b (y.labels + 3) (y.labels + 2) (y.labels + 3) (vc + 1)).1, (low b (y.labels + 3) (y.labels + 2) (y.labels + 3) (vc + 1)).2) := by
  rw [hvl, <- hc]; exact hn _ _ _ _
 rw [hl] at q
 have q1 := QL.step (l := [cGet y.vl sort idx]) (lb := y.labels) (vs := (y.tmp kd).b.vars) (ls := (y.tmp kd).b.lids) (c₁ := c + 3) (w₁ := 10 + W b) (r₁ := (lowR lid wd (sB cl) y.vl y.labels (low b (y.labels + 3) (y.labels + 2) (y.labels + 3) (vc + 1)).1, (low b (y.labels + 3) (y.labels + 2) (y.labels + 3) (vc + 1)).2)) q rfl rfl tmp_pre (nA _ _) (by show c + 3 + 6 * (10 + W b) <= c + 6 * (64 + 3 * (19 + W b)); lia)
 refine bQ3 (tl := []) dB5 (up_rd.mpr ⟨rfl, ?_⟩)
 refine dJ4 (K' := OfL _ _ _ _) (kd := kd) (c₀ := c + 3) L (by rw [zzB]; exact nR _) fun vs ls c' h1 h2 h3 h4 => bR7 h3 (lvn_ok.mpr (q1 vs ls c' h1 h2 h3 h4))
theorem bD9 {K₁ : Kt MV} {D : List PV -> Nat -> Nat -> List PV × Nat × Nat} (hn : ∀ x z g c, patL (hasD sort) g c x z = ([g, cTry c (.tup []) (aA1 z.1)], z.2)) (hc : lowR lid wd sort = lowR lid wd (sB cl))
  (rest : ∀ (vs ls : List PV) (c' : Nat) (x : Lr), x = low b (y.labels + 3) (y.labels + 2) (y.labels + 3) (vc + 1) -> vs.length = x.2.2 + 1 -> QL (y.to (y.out ++ [cGet y.vl sort idx]) x.2.1 vs ls) ([tryD (lowR lid wd (sB cl) y.vl y.labels x.1) (lowD y.vl x.2.1 x.2.2 sort).1], (lowD y.vl x.2.1 x.2.2 sort).2) 5 c' (fun y' c' => K n_ (LB y') c') -> K₁ n_ (LM (y.to (y.out ++ [cGet y.vl sort idx]) x.2.1 vs ls) 40 [.pl (lowR lid wd (sB cl) y.vl y.labels x.1)]) c') :
  calM (Of (Up P 12 (Up P 0 (GS k)))) "" "low_rounds" [lwV, .p (sPat lid e (enc b) get (sB cl) disp wd), .p (eLoc (aA7 (sB cl)) y.vl)] K₁ (LM ((y.tmp kd).put [cGet y.vl sort idx]) 40 [.pl []]) (c + 3) := by
 have hvl : y.vl = vc + 1 := L.vl
 have hl : low (.pat lid wd sort idx b) tb ta y.labels vc = ([cGet y.vl sort idx, tryD (lowR lid wd (sB cl) y.vl y.labels (low b (y.labels + 3) (y.labels + 2) (y.labels + 3) (vc + 1)).1) (lowD y.vl (low b (y.labels + 3) (y.labels + 2) (y.labels + 3) (vc + 1)).2.1 (low b (y.labels + 3) (y.labels + 2) (y.labels + 3) (vc + 1)).2.2 sort).1], (lowD y.vl (low b (y.labels + 3) (y.labels + 2) (y.labels + 3) (vc + 1)).2.1 (low b (y.labels + 3) (y.labels + 2) (y.labels + 3) (vc + 1)).2.2 sort).2) := by
  rw [hvl, <- hc]; exact hn _ _ _ _
 rw [hl] at q
 refine dR3 cM6 (up_rd.mpr ⟨rfl, ?_⟩)
 refine dJ4 (K' := OfL _ _ _ _) (kd := kd) (o := []) (c₀ := c + 3) L (zzN _) fun vs ls c' h1 h2 h3 h4 => dN2 h3 ?_
 exact rest vs ls c' _ rfl h2 (q.step (l := [cGet y.vl sort idx]) (r₁ := ([_], _)) rfl rfl (tmp_pre.trans h1) (nT (nA c 3) h3) (by show c' + 6 * 5 <= c + 6 * (64 + 3 * (19 + W b)); lia))
end
end
section
variable {P : PI} {K : Kt MV} {y : LD} {c c₁ k n tb ta vc lid : Nat} {vs ls : List PV} {lp wd cl : Bool} {b : T} {kd : Int} {sort idx : Nat}
theorem dT (L : Lo (k + 32) lp y tb ta vc (.pat lid wd sort idx b)) (q : QL y (low (.pat lid wd sort idx b) tb ta y.labels vc) (W (.pat lid wd sort idx b)) c fun y' c' => K n_ (LB y') c') : rA P (Of (Up P 12 (Up P 0 (GS k)))) 8 "" "low_over_pattern" [lwV, .p (enc (.pat lid wd sort idx b))] K (LB y) c := by
 match sort, L, q with
 | 0, L, q => exact (eA ..).mpr (dR5 (cl := true) (kd := 16) L q (fun _ _ _ _ => rfl) rfl)
 | 1, L, q => exact (eG5 ..).mpr (bD9 (cl := true) (kd := 16) (D := fun _ _ _ => ([], 0, 0)) L q (fun _ _ _ _ => rfl) rfl fun vs ls c' x hx hl z => (eA2 ..).mpr (by
   have := QL.fin (vs := ((y.to (y.out ++ [cGet y.vl 1 idx]) x.2.1 vs ls).tmp 18).b.vars) (ls := ((y.to (y.out ++ [cGet y.vl 1 idx]) x.2.1 vs ls).tmp 18).b.lids) (c₁ := c' + 9) z tmp_pre (by rw [show ((y.to (y.out ++ [cGet y.vl 1 idx]) x.2.1 vs ls).tmp 18).b.vars.length = vs.length + 1 from LD.tmp_vl, hl]; rfl) (nA _ _) (by lia)
   rw [show (y.to (y.out ++ [cGet y.vl 1 idx]) x.2.1 vs ls).vl = x.2.2 + 1 from hl]
   exact this))
 | 2, L, q => exact (eE4 ..).mpr (bD9 (cl := true) (kd := 16) (D := fun _ _ _ => ([], 0, 0)) L q (fun _ _ _ _ => rfl) rfl fun vs ls c' x hx hl z => (eF3 ..).mpr (QL.fin (vs := vs) (ls := ls) (c₁ := c' + 6) z zzR hl (nA _ _) (by lia)))
 | 3, L, q => exact (dW1 ..).mpr (bD9 (cl := false) (kd := 19) (D := fun _ _ _ => ([], 0, 0)) L q (fun _ _ _ _ => rfl) rfl fun vs ls c' x hx hl z => (eC1 ..).mpr (QL.fin (vs := vs) (ls := ls) (c₁ := c' + 2) z zzR hl (nA _ _) (by lia)))
 | 4, L, q => exact (dW9 ..).mpr (bD9 (cl := false) (kd := 19) (D := fun _ _ _ => ([], 0, 0)) L q (fun _ _ _ _ => rfl) rfl fun vs ls c' x hx hl z => (eA3 ..).mpr (QL.fin (vs := vs) (ls := ls) (c₁ := c' + 2) z zzR hl (nA _ _) (by lia)))
 | n + 5, L, q => exact (dY3 ..).mpr (dR5 (cl := false) (kd := 19) L q (fun _ _ _ _ => rfl) rfl)
theorem dE8 (L : Lo (k + 32) lp y tb ta vc (.pat lid wd sort idx b)) (q : QL y (low (.pat lid wd sort idx b) tb ta y.labels vc) (W (.pat lid wd sort idx b)) c fun y' c' => K n_ (LB y') c') : rS P (Ru P 0 (Up P 8 (Up P 12 (Up P 0 (GS k))))) (enc (.pat lid wd sort idx b)) K (LB y) c :=
 (l_8 ..).mpr ((z_fp ..).mpr (up_pt.mpr ⟨rfl, dT L (q.mono fun y c z => lvn_ok.mpr (lv2_ok.mpr z))⟩))
end
section
variable {P : PI} {C : Cx} {N : Fns} {k j n D : Nat} {G : Orc}
theorem aE9 (S : StaF C (ext P) N) (hG : Snd C N D G) : Snd C N (D + n + 2) (Up P n G) := by
 intro x f args K m c hK e0
 refine br_e e0 (fun _ e => aD8 (by lia) (hG x f args K m c hK e)) fun _ e => ?_
 obtain ⟨rfl, e⟩ := e
 exact aD8 (by lia) (aT3 S (cG9 S (aK0 hG)) hK e)
theorem aJ1 (S : StaF C (ext P) N) (hG : Snd C N D G) : Snd C N (D + n + 2) (Ru P n G) := fun x f args K m c hK e => aD8 (by lia) (aT3 S (cG9 S hG) hK e)
theorem cM8 (S : StaF C (ext P) N) (hG : Snd C N D G) : Snd C N (D + n + 1) (RuF P n G) := fun x f args K m c hK e => aT3 S hG hK e
theorem cA2 (S : StaF C (ext P) N) (ih : ∀ j, j < k -> Snd C N j (GS j)) : Snd C N k (GS k) := by
 intro x f args K m c hK e
 obtain ⟨rfl, rfl, y, t, lp, tb, ta, vc, rfl, rfl, hs, L, q⟩ := e
 have go : ∀ {G : Orc} {D : Nat}, Snd C N D G -> D + 3 <= k -> rS P G (enc t) K (LB y) c -> c <= bigN /\ Good C N k (V "Low") (V "stmt") [lwV, .p (enc t)] K (LB y) c := fun hG h e => aD8 h (aT3 (n := 2) S hG hK e)
 have sub : ∀ {d}, d + 1 <= k -> ∃ j, k = j + (d + 1) /\ Snd C N j (GS j) := fun {d} h => ⟨k - (d + 1), by lia, ih _ (by lia)⟩
 cases t with
 | nil => exact nomatch hs
 | cons s r => exact nomatch hs
 | ex x => exact go bE9 (nT (show 0 + 3 <= 8 by decide) L.dep) (dV5 L q)
 | jump jp => exact go (aJ1 S bE9) (nT (show 0 + 2 + 2 + 3 <= 8 by decide) L.dep) (cO5 L q)
 | blk l =>
  refine ex1 (sub (d := 4) (nT (zzE _ _) L.dep)) fun j w => ?_
  obtain ⟨rfl, w⟩ := w
  exact go (aJ1 S (aK0 w)) (by lia) (dQ5 L q)
 | ask a b =>
  refine ex1 (sub (d := 10) (nT (zzE _ _) L.dep)) fun j w => ?_
  obtain ⟨rfl, w⟩ := w
  exact go (aJ1 S (aK0 w)) (by lia) (eG2 L q)
 | whil ts b =>
  refine ex1 (sub (d := 12) (nT (zzE _ _) L.dep)) fun j w => ?_
  obtain ⟨rfl, w⟩ := w
  exact go (aJ1 S (aK0 (aE9 S w))) (by lia) (cN L q L.vd.1)
 | dow ts b =>
  refine ex1 (sub (d := 12) (nT (zzE _ _) L.dep)) fun j w => ?_
  obtain ⟨rfl, w⟩ := w
  exact go (aJ1 S (aK0 (aE9 S w))) (by lia) (dL1 L q)
 | for_ e1 ts e2 e3 b =>
  refine ex1 (sub (d := 12) (nT (zzE _ _) L.dep)) fun j w => ?_
  obtain ⟨rfl, w⟩ := w
  exact go (cM8 S (aK0 (aE9 S w))) (by lia) (dC2 L q)
 | try_ lid b h f =>
  refine ex1 (sub (d := 8) (nT (zzE _ _) L.dep)) fun j w => ?_
  obtain ⟨rfl, w⟩ := w
  exact go (aJ1 S (aK0 (aE9 S w))) (by lia) (dH2 L q)
 | usg u lid b =>
  refine ex1 (sub (d := 16) (nT (zzE _ _) L.dep)) fun j w => ?_
  obtain ⟨rfl, w⟩ := w
  exact go (aJ1 S (aK0 (aE9 S w))) (by lia) (dM6 L q)
 | arr lid wd src b =>
  refine ex1 (sub (d := 21) (nT (zzE _ _) L.dep)) fun j w => ?_
  obtain ⟨rfl, w⟩ := w
  exact go (aJ1 S (aE9 S (aE9 S w))) (by lia) (dM7 L q)
 | pat lid wd sort idx b =>
  refine ex1 (sub (d := 31) (nT (zzE _ _) L.dep)) fun j w => ?_
  obtain ⟨rfl, w⟩ := w
  exact go (aJ1 S (aE9 S (aE9 S (aE9 S w)))) (by lia) (dE8 L q)
theorem dP2 (S : StaF C (ext P) N) (k : Nat) : Snd C N k (GS k) := Nat.strongRecOn k fun k ih => cA2 S ih
end
section
noncomputable def fzV : Str -> Bool := fun x => x == V "Var"
noncomputable def HG : How where
 stop _ _ := false
 gc _ := true
 fz := fzV
noncomputable def HW : How where
 stop c f := (c == V "Low" && f == V "stmt") || (c == V "" && (f == V "low_over_pattern" || f == V "_law_flow" || f == V "_law_exec"))
 gc f := !(f == V "_law_lowerer" || f == V "_law_world")
 fz := fzV
noncomputable def scLaw : Scope := aO4 (topS 239)
noncomputable def bodyLaw : List Stmt := aL1 (topS 239)
@[irreducible] noncomputable def lawT (P : PI) (cl : Orc) (k n : Nat) (loc : Loc) (K : Kt (Flw × Loc)) (m : Mem) (c : Nat) : Prop := evSs (ext P) fzV cl ((bodyLaw.drop k).take n) scLaw loc K m c
noncomputable def dX : List PV := [pi 1, pi 3, pi 0, pi 0, pi 3, pi 9, pi 0, pi 0, pi 2, pi 0, pi 1, pi 8, pi 11, pi 1, pi 0, pi 1]
noncomputable def aQ3 (k : Nat) (ret : Int) (i : Nat) : Mem := [.attrs [sE "mid" (i_ k), sE "owner" (i_ 64), sE "name" (.p (.str (V "M"))), sE "access" (i_ 6), sE "flags" (i_ 2), sE "ngen" (i_ 0), sE "gnames" (.obj (i + 1)), sE "gbounds" (.obj (i + 2)), sE "ret" (i_ ret), sE "params" (.p (.tup [])), sE "pnames" (.p (.tup [])), sE "pflags" (.p (.tup [])), sE "body" n_, sE "native" (i_ 0)], .pl [], .pl []]
noncomputable def cJ0 : List PV := List.replicate 21 (pi 1) ++ [pi 2]
noncomputable def idxE : List PV -> Int -> List (PV × MV)
 | [], _ => []
 | k :: r, i => (k, i_ i) :: idxE r (i + 1)
noncomputable def gMem (nums : List PV) : Mem := [
 .pl nums,
 .attrs [sE "kt" (.inst 2 (V "KindTable")), sE "types" (.obj 8), sE "fields_" (.obj 9), sE "methods" (.obj 27), sE "names" (.obj 11), sE "asms" (.obj 12), sE "entry" (i_ 0)],
 .attrs [sE "rows" (.obj 3), sE "index" (.obj 4), sE "depths" (.obj 5), sE "weights" (.obj 6), sE "opens" (.obj 7)],
 .pl cW0, .dict (idxE cW0 0), .pl cJ0, .pl cJ0, .pl (List.replicate 22 (pi 0)),
 .pl [.none], .pl [.none], .pl [.none], .dict [], .pl [],
 .attrs [sE "store" (.inst 1 (V "Store")), sE "asm" (i_ 0), sE "fns" (.obj 14), sE "vars" (.obj 15), sE "of_mid" (.obj 16), sE "diags" (.inst 17 (V "Diags")), sE "inits" (.obj 19), sE "sinits" (.obj 20), sE "consts" (.obj 21)],
 .list [n_, .inst 22 (V "Fn")], .pl [.none, varV 1 (V "a") 21 0], .dict [], .attrs [sE "rows" (.obj 18)], .pl [], .dict [], .dict [], .dict [],
 .attrs [sE "fnid" (i_ 1), sE "mid" (i_ 0), sE "lids" (.obj 23), sE "params" (.obj 24), sE "this_kind" (i_ (-1)), sE "ret" (i_ 0), sE "body" n_, sE "up" (i_ 0), sE "sort" (i_ 0), sE "elem" (i_ (-1)), sE "at" (i_ 0)],
 .pl [pi 1], .pl [],
 .dict [tE "numbers" (.obj 0), tE "at" (i_ 0), tE "left" (i_ 12), tE "event" (i_ 0), tE "final" (i_ 0), tE "unit" (.inst 13 (V "Unit")), tE "kinds" (.p (.tup [pi 16, pi 17, pi 18, pi 19])), tE "specs" (.obj 26), tE "value" (i_ 20), tE "array" (i_ 21), tE "held" (i_ 1)],
 .pl [],
 .list [n_, n_, .inst 28 (V "MethodDef"), .inst 31 (V "MethodDef"), .inst 34 (V "MethodDef"), .inst 37 (V "MethodDef"), .inst 40 (V "MethodDef"), .inst 43 (V "MethodDef"), .inst 46 (V "MethodDef"), .inst 49 (V "MethodDef"), .inst 52 (V "MethodDef"), .inst 55 (V "MethodDef")]] ++
 (aQ3 2 16 28 ++ (aQ3 3 19 31 ++ (aQ3 4 1 34 ++ (aQ3 5 7 37 ++ (aQ3 6 1 40 ++ (aQ3 7 7 43 ++ (aQ3 8 0 46 ++ (aQ3 9 0 49 ++ (aQ3 10 0 52 ++ aQ3 11 0 55)))))))))
noncomputable def gLoc : Loc := [(V "numbers", .obj 0), (V "store", .inst 1 (V "Store")), (V "unit", .inst 13 (V "Unit")), (V "fn", .inst 22 (V "Fn")), (V "kt", .inst 2 (V "KindTable")), (V "kinds", .p (.tup [pi 16, pi 17, pi 18, pi 19])), (V "st", .obj 25), (V "rets", .p (.tup [pi 16, pi 19, pi 1, pi 7, pi 1, pi 7, pi 0, pi 0, pi 0, pi 0])), (V "place", i_ 9)]
noncomputable def b0 (nums : List PV) : BD := ⟨nums, 0, 12, 0, 0, [], [.none, varV 1 (V "a") 21 0], [pi 1]⟩
variable (P : PI) (G : Orc) (K : Kt (Flw × Loc)) (c : Nat)
theorem eH1 (l : List PV) : lawT P (inl (ext P) HG G 9) 0 2 [(V "script", .frz l)] K [] c = br (decide (((l.take 26).length : Int) = 0)) (K (.next, [(V "script", .frz l), (V "numbers", .obj 1)]) [.pl (l.take 26), .pl dX] (c + 42)) (K (.next, [(V "script", .frz l), (V "numbers", .obj 0)]) [.pl (l.take 26)] (c + 26)) := by kernel_rfl
theorem w_gr (nums : List PV) : lawT P (inl (ext P) HG G 9) 2 12 [(V "numbers", .obj 0)] K [.pl nums] c = K (.next, gLoc) (gMem nums) (c + 141) := by kernel_rfl
noncomputable abbrev selG : List Nat := [0, 25, 26, 15, 23, 13, 14, 22, 1, 2, 3, 7, 27, 28, 31, 34, 37, 40, 43, 46, 49, 52, 55]
noncomputable abbrev locG : Loc := [(V "numbers", .obj 0), (V "unit", .inst 5 (V "Unit")), (V "fn", .inst 7 (V "Fn")), (V "st", .obj 1)]
theorem dM8 (nums : List PV) : aI0 selG (gMem nums) selG = some (GB (b0 nums)) := by kernel_rfl
theorem cZ4 : aQ8 selG gLoc [V "numbers", V "unit", V "fn", V "st"] = some locG := by kernel_rfl
end
section
variable (P : PI) (G : Orc) (K : Kt (Flw × Loc)) (c : Nat)
theorem cS6 (b : BD) : lawT P (Od G) 14 3 locG K (GB b) c = chk (allI b.nums) (∀ r : Nat, (r : Int) < 6 -> cal G "_law_pattern" [.obj 1, i_ 0, i_ r] (fun v => lawT P (Od G) 16 1 (locG ++ [(V "sort", i_ r), (V "first", v)]) K) (GB { b with at_ := b.at_ + 1 }) (c + 1)) := by kernel_rfl
theorem dA1 (b : BD) (r : Nat) (v : MV) : lawT P (Od G) 16 1 (locG ++ [(V "sort", i_ r), (V "first", v)]) K (GB b) c = cal G "_law_block" [.obj 1, i_ 0, i_ 0] (fun u => K (.next, locG ++ [(V "sort", i_ r), (V "first", v), (V "rest", u)])) (GB b) c := by kernel_rfl
noncomputable abbrev aF2 (r : Nat) (f : PV) (more : Loc) : Loc := locG ++ ((V "sort", i_ r) :: (V "first", .p f) :: (V "rest", .obj 23) :: more)
theorem eG8 (b : BD) (r : Nat) (f : PV) (l : List PV) : lawT P (inl (ext P) HW G 4) 17 3 (aF2 r f []) K (GB b ++ [.pl l]) c = calM G "" "low_over_pattern" [lwV, .p f] (fun _ => lawT P (inl (ext P) HW G 4) 19 1 (aF2 r f [(V "lw", lwV)]) K) (LB ⟨b, l, 0, [], []⟩) (c + 10) := by kernel_rfl
noncomputable def fsF : MV -> Loc -> PT (Flw × Loc) := forB (ext P) fzV (inl (ext P) HW G 4) (atS bodyLaw 19) scLaw
noncomputable def fsK (K : Kt (Flw × Loc)) : Kt (Flw × Loc) := fun x m c => match x.1 with
 | .next => K (.next, x.2) m c
 | .brk => K (.brk, x.2) m c
 | .cont => K (.cont, x.2) m c
 | .ret v => K (.ret v, x.2) m c
theorem dG (x : LD) (r : Nat) (f : PV) : lawT P (inl (ext P) HW G 4) 19 1 (aF2 r f [(V "lw", lwV)]) K (LB x) c = ∃ n, forO (fsF P G) 23 (fsK K) n 0 (aF2 r f [(V "lw", lwV)]) (LB x) c := by kernel_rfl
theorem dN1 (x : LD) (r : Nat) (f v : PV) : fsF P G (.p v) (aF2 r f [(V "lw", lwV)]) K (LB x) c = calM G "Low" "stmt" [lwV, .p v] (fun _ => K (.next, aF2 r f [(V "lw", lwV), (V "s", .p v)])) (LB x) c := by kernel_rfl
theorem dD7 (x : LD) (r : Nat) (f v : PV) (u : MV) : fsF P G (.p v) (aF2 r f [(V "lw", lwV), (V "s", u)]) K (LB x) c = calM G "Low" "stmt" [lwV, .p v] (fun _ => K (.next, aF2 r f [(V "lw", lwV), (V "s", .p v)])) (LB x) c := by kernel_rfl
end
section
noncomputable def wdM (i : Nat) (w : FD) (vars live : MO) : Mem := [.dict [tE "specs" (.obj 2), tE "tape" (.obj 41), tE "at" (i_ w.at_), tE "out" (.obj (i + 1)), tE "vars" (.obj (i + 2)), tE "live" (.obj (i + 3)), tE "thr" (i_ w.thr), tE "turns" (i_ w.turns), tE "kinds" (.p (.tup [pi 16, pi 17, pi 18, pi 19])), tE "value" (i_ 20)], .pl w.out, vars, live]
noncomputable def w0 (specs tp ex : List PV) : FD := ⟨0, [], [(pi 1, .p (.tup [pi 5, pi 6]))], .pl [], specs, tp, 0, 0, ex⟩
noncomputable abbrev locV (f : PV) (more : Loc) : Loc := (V "numbers", .obj 0) :: (V "st", .obj 1) :: (V "first", .p f) :: (V "rest", .obj 23) :: (V "lw", lwV) :: (V "tape", .obj 41) :: more
noncomputable def M20 (x : LD) (n6 tp : List PV) (tl : Mem) : Mem := LM x 25 (.pl n6 :: .pl tp :: tl)
variable (P : PI) (x : LD) (G : Orc) (K : Kt (Flw × Loc)) (c : Nat) (n6 tp : List PV) (f : PV)
theorem cQ2 : lawT P (inl (ext P) HW G 4) 21 5 (locV f []) K (M20 x n6 tp []) c = calM G "" "_law_flow" [.obj 42, .obj 25] (fun v => lawT P (inl (ext P) HW G 4) 23 3 (locV f [(V "there", .obj 42), (V "end", v)]) K) (M20 x n6 tp (wdM 42 (w0 x.b.specs tp x.out) (.dict (w0 x.b.specs tp x.out).vars) (.pl []))) (c + 11) := by kernel_rfl
theorem cT9 (e : PV) (w : FD) (vs lv : MO) : lawT P (inl (ext P) HW G 4) 23 3 (locV f [(V "there", .obj 42), (V "end", .p e)]) K (M20 x n6 tp (wdM 42 w vs lv)) c = calM G "" "_law_exec" [.obj 46, .p (aA1 (f :: x.rest))] (fun v => lawT P (inl (ext P) HW G 4) 25 1 (locV f [(V "there", .obj 42), (V "end", .p e), (V "here", .obj 46), (V "want", v)]) K) (M20 x n6 tp (wdM 42 w vs lv ++ wdM 46 (w0 x.b.specs tp w.out) (.dict (w0 x.b.specs tp w.out).vars) (.pl []) ++ [.pl [f], .pl (f :: x.rest)])) (c + 13) := by kernel_rfl
noncomputable def LD.sp (x : LD) (specs out : List PV) : LD := { x with b := { x.b with specs := specs }, out := out }
theorem dL4 (e v : PV) (w w' : FD) (vs lv vs' lv' : MO) (more : Mem) : lawT P (inl (ext P) HW G 4) 25 1 (locV f [(V "there", .obj 42), (V "end", .p e), (V "here", .obj 46), (V "want", .p v)]) K (M20 x n6 tp (wdM 42 w vs lv ++ wdM 46 w' vs' lv' ++ more)) c =
  chk (okQ e v) (br (peq e v) (chk (okEs 8 w.out && okEs 8 w'.out) (K (.ret (b_ (peqs w.out w'.out)), locV f [(V "there", .obj 42), (V "end", .p e), (V "here", .obj 46), (V "want", .p v)]) (M20 x n6 tp (wdM 42 w vs lv ++ wdM 46 w' vs' lv' ++ more)) c))
   (K (.ret (b_ (peq e v)), locV f [(V "there", .obj 42), (V "end", .p e), (V "here", .obj 46), (V "want", .p v)]) (M20 x n6 tp (wdM 42 w vs lv ++ wdM 46 w' vs' lv' ++ more)) c)) := by kernel_rfl
noncomputable abbrev selF : List Nat := [42, 43, 44, 45, 2, 41, 25]
noncomputable abbrev selE : List Nat := [46, 47, 48, 49, 2, 41, 43]
theorem dS6 : aI0 selF (M20 x n6 tp (wdM 42 (w0 x.b.specs tp x.out) (.dict (w0 x.b.specs tp x.out).vars) (.pl []))) selF = some (FW (w0 x.b.specs tp x.out) []) := by kernel_rfl
theorem dX3 (w w' : FD) (vs lv : MO) (tl : Mem) : putB selF selF (FW w' tl) (M20 x n6 tp (wdM 42 w vs lv)) = M20 (x.sp w'.specs w'.extra) n6 w'.tape (wdM 42 w' (bC0 selF (.dict w'.vars)) (bC0 selF w'.live)) := by kernel_rfl
theorem dD5 (w : FD) (vs lv : MO) (a b : MO) : aI0 selE (M20 x n6 tp (wdM 42 w vs lv ++ wdM 46 (w0 x.b.specs tp w.out) (.dict (w0 x.b.specs tp w.out).vars) (.pl []) ++ [a, b])) selE = some (FW (w0 x.b.specs tp w.out) []) := by kernel_rfl
theorem eD9 (w w1 w' : FD) (vs lv vs' lv' a b : MO) (tl : Mem) : putB selE selE (FW w' tl) (M20 x n6 tp (wdM 42 w vs lv ++ wdM 46 w1 vs' lv' ++ [a, b])) = M20 (x.sp w'.specs x.out) n6 w'.tape (wdM 42 { w with out := w'.extra } vs lv ++ wdM 46 w' (bC0 selE (.dict w'.vars)) (bC0 selE w'.live) ++ [a, b]) := by kernel_rfl
end
section
variable {P : PI} {k z n0 vc : Nat} {e : En} {g : Sg} {w : FD} {tl : Mem} {c : Nat} {K : Kt MV} {t : T}
theorem cG3 (B : Cmp n0 t) (hd : dep t <= k) (hl : nl t <= 80) (hn : ln t < 1000000) (hv : n0 <= vc) (hL : (low t 0 0 0 vc).1 ≠ []) (hx : g.ex = (low t 0 0 0 vc).1) (R : Rw g (z + 8) (e.plus n0 fun _ => none) w tl c)
  (q : X g.tp g.sp t (fun r e => (r ≠ .brk /\ r ≠ .cont) /\ Lk g z (e.plus n0 fun _ => none) K (rv r)) e) : GaF P (k + 1) (V "") xFl [.obj 0, .obj 6] K (FW w tl) c := by
 have lo := aE7 t 0 0 0 vc
 have h := lo.1
 have hlen : (low t 0 0 0 vc).1.length < 1000000 := zzG h.len hn
 have hex : w.extra = (low t 0 0 0 vc).1 := R.extra.trans hx
 rw [aU5]
 refine ⟨rfl, rfl, bG (L := (low t 0 0 0 vc).1) (n := 0) (m := 8) (fun tl c K q => ?_) (fun p s tl c K hs q => ?_) hlen h.flat (by have := h.cnt; have := lo.2.1; lia) R (.inr ⟨rfl, hx⟩) (fun h _ => absurd h hL) (fun j M u hM hu F => ?_) fun h => absurd h hL⟩
 ·show K (i_ w.extra.length) (FW w tl) c
  rw [hex]; exact q
 ·show chk (Nat.blt p 1000000) (som w.extra[p]? fun x => K (.p x) (FW w tl) c)
  rw [hex, show Nat.blt p 1000000 = true from zzI (Nat.lt_trans (zzA.mp hs).1 hlen), hs]
  exact q
 ·subst hM
  have O : Cz.Ok ⟨P, k, .obj 6, j, mkD (low t 0 0 0 vc).1 0 [], (low t 0 0 0 vc).1, K, { g with kp := (j, mkD (low t 0 0 0 vc).1 0 []) :: g.kp, u := u }, n0⟩ := ⟨F, fun p l hl => (cH6 _ (p := 0) rfl h.nd hl).trans (congrArg (fun x => some (MV.p (pn x))) (Nat.zero_add p))⟩
  refine B O rfl hd (aI _) rfl (nR _) (nR _) hv (fun _ _ => rfl) (aB5 t _ _ _ (fun r e k => ?_) q)
  have hK : ∀ {v}, Lk g z (e.plus n0 fun _ => none) K v -> Lk { g with kp := (j, mkD (low t 0 0 0 vc).1 0 []) :: g.kp, u := u } z (e.plus n0 fun _ => none) K v := fun k w tl c R => k w tl c (R.unmark hu)
  cases r with
  | next => exact (Nat.zero_add (low t 0 0 0 vc).1.length).symm ▸ bB O (hK k.2)
  | brk => exact absurd rfl k.1.1
  | cont => exact absurd rfl k.1.2
  | ret v => exact hK k.2
  | thr v => exact hK k.2
variable {C : Cx} {N : Fns}
theorem gaf_zero {x f : Str} {args : List MV} {m : Mem} : GaF P 0 x f args K m c = False := by kernel_rfl
theorem cV8 (S : StaF C (ext P) N) : Snd C N (10 * k) (GaF P k) := by
 induction k with
 | zero => exact fun x f args K m c hK e => (gaf_zero.mp e).elim
 | succ k ih =>
  intro x f args K m c hK e
  rw [aU5] at e
  obtain ⟨rfl, rfl, e⟩ := e
  exact aH0 S (cK6 S ih (j := 9)) hK e
noncomputable def Oo (e : En) : Prop := okEs 8 e.out = true /\ ∀ i v, e.vars i = some v -> okE 7 v = true
theorem bG4 {n : Nat} {a b : List PV} (h : okEs n a = true) (h' : okEs n b = true) : okEs n (a ++ b) = true := by
 induction a with
 | nil => exact h'
 | cons x a ih => exact aA h fun h1 h2 => aM h1 (ih h2)
theorem Oo.emit {e : En} (h : Oo e) {a b : PV} (ha : okE 7 a = true) (hb : okE 7 b = true) : Oo (e.emit a b) := ⟨bG4 h.1 (aM (aM ha (aM hb rfl)) rfl), h.2⟩
theorem Oo.set {e : En} (h : Oo e) {i : Nat} {v : PV} (hv : okE 7 v = true) : Oo (e.set i v) := ⟨h.1, fun j u q => by
 have q : (match Nat.beq j i with | true => some v | false => e.vars j) = some u := q
 cases hb : Nat.beq j i with
 | true => rw [hb] at q; cases q; exact hv
 | false => rw [hb] at q; exact h.2 j u q⟩
theorem cL7 (l : List Int) : okEs 6 (l.map PV.int) = true := by
 induction l with
 | nil => rfl
 | cons a l ih => exact aM rfl ih
theorem bC4 (o : Option (List Int)) : okE 7 (arrV o) = true /\ okE 7 (orZ (arrV o)) = true := by
 cases o with
 | none => exact ⟨rfl, rfl⟩
 | some l => exact ⟨cL7 l, cL7 l⟩
end
noncomputable def Mo (b : KX -> En -> Prop) : Prop := ∀ (K K' : KX) (e : En), Oo e -> (∀ r e, Oo e -> K r e -> K' r e) -> b K e -> b K' e
section
variable {tp : List Bool} {sp : List Spec} {b : KX -> En -> Prop} {K K' : KX} {e : En} {t : Tst} {lid each idx : Nat}
theorem Oo.asked (o : Oo e) : Oo (e.asked tp) := ⟨bG4 o.1 rfl, o.2⟩
theorem aY0 {go go' stop stop' : En -> Prop} (o : Oo e) (hg : ∀ e, Oo e -> go e -> go' e) (hs : ∀ e, Oo e -> stop e -> stop' e) (q : tstX tp t e go stop) : tstX tp t e go' stop' := by
 cases t with
 | ask =>
  show (match ans tp e with | true => go' (e.asked tp) | false => stop' (e.asked tp))
  have q : (match ans tp e with | true => go (e.asked tp) | false => stop (e.asked tp)) := q
  revert q
  cases ans tp e with
  | true => exact hg _ o.asked
  | false => exact hs _ o.asked
 | zero => exact hs _ o q
 | one => exact hg _ o q
 | non => exact hg _ o q
theorem cU5 {go go' : En -> Prop} (h : ∀ r e, Oo e -> K r e -> K' r e) (hg : ∀ e, Oo e -> go e -> go' e) (r : Rs) (e : En) (o : Oo e) (q : exX K go r e) : exX K' go' r e := by
 cases r with
 | next => exact hg e o q
 | cont => exact hg e o q
 | brk => exact h _ _ o q
 | ret v => exact h _ _ o q
 | thr v => exact h _ _ o q
theorem dB2 (hb : Mo b) (h : ∀ r e, Oo e -> K r e -> K' r e) {p p' : En -> (En -> Prop) -> Prop} (hp : ∀ (go go' : En -> Prop) e, Oo e -> (∀ e, Oo e -> go e -> go' e) -> p e go -> p' e go') (k : Nat) : ∀ e, Oo e -> lpX b p K k e -> lpX b p' K' k e := by
 induction k with
 | zero => exact fun _ _ q => q
 | succ k ih => exact fun e o q => hb _ _ e o (cU5 h fun e o q => hp _ _ e o ih q) q
theorem dL8 (hb : Mo b) (h : ∀ r e, Oo e -> K r e -> K' r e) (l : List Int) : ∀ e, Oo e -> arX b lid K l e -> arX b lid K' l e := by
 induction l with
 | nil => exact fun e o q => h _ _ o q
 | cons a l ih => exact fun e o q => ⟨q.1, hb _ _ _ (Oo.set (e := { e with gas := e.gas - 26 }) ⟨o.1, o.2⟩ rfl) (cU5 h ih) q.2⟩
theorem Oo.ev (o : Oo e) {s : Str} {n : Nat} (h : PyData.strOk s = true) : Oo (e.ev s n) := o.emit h rfl
theorem eD2 (hb : Mo b) (h : ∀ r e, Oo e -> K r e -> K' r e) (n : Nat) : ∀ k e, Oo e -> rdX b lid each idx K n k e -> rdX b lid each idx K' n k e := by
 induction n with
 | zero => exact fun k e o q => ⟨q.1, h _ _ (by have := Oo.ev (s := V "step") (n := each) o (by decide +kernel); exact ⟨this.1, this.2⟩) q.2⟩
 | succ n ih => exact fun k e o q => ⟨q.1, q.2.1, hb _ _ _ (by
   have o1 : Oo ({ e with gas := e.gas - 19 } : En) := ⟨o.1, o.2⟩
   have o2 := Oo.ev (s := V "step") (n := each) o1 (by decide +kernel)
   exact (Oo.ev (e := { ({ e with gas := e.gas - 19 } : En).ev (V "step") each with live := e.live.set each (idx, k + 1) }) ⟨o2.1, o2.2⟩ (by decide +kernel)).set rfl) (cU5 h (ih _)) q.2.2⟩
theorem aC2 {n : Nat} {k k' : En -> Prop} (o : Oo e) (h : ∀ e, Oo e -> k e -> k' e) (q : pay n e k) : pay n e k' := ⟨q.1, h _ ⟨o.1, o.2⟩ q.2⟩
theorem dP4 {α : Type} {o : Option α} {a : α} {k : α -> Prop} (h : o = some a) (q : k a) : som o k := by rw [h]; exact q
theorem x_mo (t : T) : Mo (X tp sp t) := by
 induction t with
 | nil =>
  exact fun K K' e o h q => h _ _ o q
 | cons s r i1 i2 =>
  exact fun K K' e o h q => i1 _ _ e o (fun x e o q => by cases x <;> first | exact i2 _ _ e o h q | exact h _ _ o q) q
 | blk l ih => exact ih
 | ex x=>
  intro K K' e o h q
  cases x with
  | say ev => exact aC2 o (fun e o q => h _ _ (o.emit rfl rfl) q) q
  | hold r => exact aC2 o (fun e o q => h _ _ ((o.emit rfl (bC4 _).2).set (bC4 _).1) q) q
  | shown lid kind ev => exact aC2 o (fun e o q => aB q fun v hv q => dP4 hv (h _ _ (o.emit rfl (o.2 _ _ hv)) q)) q
 | jump j=>
  intro K K' e o h q
  cases j with
  | brk => exact aC2 o (fun e o q => h _ _ o q) q
  | cont => exact aC2 o (fun e o q => h _ _ o q) q
  | ret ev => exact aC2 o (fun e o q => h _ _ (o.emit rfl rfl) q) q
  | thr k => exact aC2 o (fun e o q => h _ _ (o.emit rfl rfl) q) q
 | ask y n i1 i2 =>
  exact fun K K' e o h q => aC2 o (fun e o q => by
   revert q
   cases ans tp e with
   | true => exact i1 _ _ _ o.asked h
   | false => exact i2 _ _ _ o.asked h) q
 | whil t b ih =>
  exact fun K K' e o h q => aC2 o (fun e o q => ex1 q fun k q => ⟨k, aY0 o (dB2 ih h (fun go go' e o hg q => aC2 o (fun e o q => aY0 o hg (h _) q) q) k) (h _) q⟩) q
 | dow t b ih =>
  exact fun K K' e o h q => aC2 o (fun e o q => ex1 q fun k q => ⟨k, dB2 ih h (fun go go' e o hg q => aC2 o (fun e o q => aY0 o hg (h _) q) q) k _ o q⟩) q
 | for_ e1 t e2 e3 b ih =>
  exact fun K K' e o h q => aC2 o (fun e o q => ex1 q fun k q => ⟨k, aY0 (o.emit rfl rfl) (dB2 ih h (fun go go' e o hg q => aC2 o (fun e o q => aY0 ((o.emit rfl rfl).emit rfl rfl) hg (h _) q) q) k) (h _) q⟩) q
 | try_ lid b hd l i1 i2 i3 =>
  exact fun K K' e o h q => aC2 o (fun e o q => i1 _ _ _ o (fun x e o q => by
   have fin : X tp sp l (fun y => K (finR x y)) e -> X tp sp l (fun y => K' (finR x y)) e := i3 _ _ e o fun y e o q => h _ _ o q
   cases lid with
   | zero => exact fin q
   | succ lid => cases x with
    | thr v => exact i2 _ _ _ (o.set rfl) (fun x e o q => i3 _ _ e o (fun y e o q => h _ _ o q) q) q
    | _ => exact fin q) q) q
 | usg w lid b ih =>
  exact fun K K' e o h q => aC2 o (fun e o q => ih _ _ _ ((o.emit rfl (by unfold useV; split <;> rfl)).set (by unfold useV; split <;> rfl)) (fun x e o q => ⟨q.1, h _ _ (by cases useV w <;> first | exact o | exact o.ev (by decide +kernel)) q.2⟩) q) q
 | arr lid wide src b ih =>
  exact fun K K' e o h q => aC2 o (fun e o q => by
   cases src with
   | none => exact ex1 q fun a q => ⟨a, q.1, q.2.1, by
     have q := q.2.2
     cases a with
     | none => exact h _ _ o q
     | some l => exact dL8 ih h l _ o q⟩
   | some r =>
    have o := o.emit (a := pi (1080 + r)) rfl (bC4 (rowL r)).2
    show (match rowL r with | none => K' (.thr 1) (e.row r) | some l => arX (X tp sp b) lid K' l (e.row r))
    have q : (match rowL r with | none => K (.thr 1) (e.row r) | some l => arX (X tp sp b) lid K l (e.row r)) := q
    revert q
    cases hr : rowL r with
    | none => exact h _ _ o
    | some l => exact dL8 ih h l _ o) q
 | pat lid wide sort idx b ih =>
  exact fun K K' e o h q => aC2 o (fun e o q => aB q fun s hs q => dP4 hs ⟨q.1, by
   have q := q.2
   revert q
   cases s.null with
   | true => exact h _ _ (o.emit rfl rfl)
   | false =>
    have og := Oo.ev (s := V "get") (n := idx) (o.emit (a := pi (1100 + idx)) (b := pn idx) rfl rfl) (by decide +kernel)
    cases s.nullE with
    | true => exact h _ _ og
    | false => exact fun q => eD2 ih (fun x e' o' q => ⟨q.1, h _ _ (by cases hasD sort && s.disp <;> first | exact o' | exact o'.ev (by decide +kernel)) q.2⟩) _ _ _ ⟨og.1, og.2⟩ q⟩) q
end
theorem bH4 (n : Nat) : ∀ l, okEs n l = true -> peqs l l = true := by
 induction n with
 | zero =>
  intro l
  induction l with
  | nil => exact fun _ => rfl
  | cons x l ih => exact fun h => aA h fun h1 h2 => aM (by cases x <;> first | exact decide_eq_true rfl | exact beq_self_eq_true _ | rfl | exact nomatch h1) (ih h2)
 | succ n ihn =>
  intro l
  induction l with
  | nil => exact fun _ => rfl
  | cons x l ih => exact fun h => aA h fun h1 h2 => aM (by cases x <;> first | exact decide_eq_true rfl | exact beq_self_eq_true _ | rfl | exact ihn _ h1 | exact nomatch h1) (ih h2)
noncomputable def rvP : Rs -> PV
 | .next => .none
 | .brk => .tup [pi 10, pi 0]
 | .cont => .tup [pi 11, pi 0]
 | .ret v => .tup [.str (V "ret"), pi v]
 | .thr v => .tup [.str (V "thr"), pi v]
theorem rv_p (r : Rs) : rv r = .p (rvP r) := by cases r <;> rfl
theorem eG4 (r : Rs) : okQ (rvP r) (rvP r) = true /\ peq (rvP r) (rvP r) = true := by
 have h : okE 8 (rvP r) = true := by cases r <;> first | rfl | exact aM (show PyData.strOk (V "ret") = true by decide +kernel) rfl | exact aM (show PyData.strOk (V "thr") = true by decide +kernel) rfl
 exact ⟨by cases r <;> first | rfl | exact aM h h, by have := bH4 8 [rvP r] (aM h rfl); exact aA this fun a _ => a⟩
noncomputable def Gt (P : PI) (k : Nat) : Orc := fun x f args K m c => br (f == xFl) (GaF P k x f args K m c) (∃ g, GaE g k x f args K m c)
section
variable {P : PI} {k c : Nat} {x : LD} {n6 tpv : List PV} {w w1 : FD} {vs lv vs' lv' a b : MO} {s : PV} {K : Kt MV} {m : Mem}
theorem gt_fl {args : List MV} : Gt P k (V "") xFl args K m c = GaF P k (V "") xFl args K m c := by kernel_rfl
theorem gt_ex {args : List MV} : Gt P k (V "") xEx args K m c = ∃ g, GaE g k (V "") xEx args K m c := by kernel_rfl
theorem eE6 : ([.obj 42, .obj 25] : List MV).map (renV selF) = [.obj 0, .obj 6] := by kernel_rfl
theorem dY : ([.obj 46, .p s] : List MV).map (renV selE) = [.obj 0, .p s] := by kernel_rfl
noncomputable abbrev wld (specs tpv ex : List PV) (i : Nat) : Mem := wdM i (w0 specs tpv ex) (.dict (w0 specs tpv ex).vars) (.pl [])
noncomputable def OfW (K : Kt MV) (sel : List Nat) (m : Mem) (c : Nat) : Kt MV := fun v m1 c1 => ∃ c2, (c <= c2 /\ c1 <= c2) /\ ((sel.length <= m1.length /\ (∃ p, v = .p p) /\ K v (putB sel sel m1 m) c2) ∨ ∃ l m2, m1 = m2 ++ [.pl l] /\ m2.length = sel.length /\ v = .obj sel.length /\ K (.obj m.length) (putB sel sel m2 m ++ [.pl l]) c2)
theorem dK2 (q : Gt P k (V "") xFl [.obj 0, .obj 6] (OfW K selF (M20 x n6 tpv (wld x.b.specs tpv x.out 42)) c) (FW (w0 x.b.specs tpv x.out) []) c) : calM (Of (Gt P k)) "" "_law_flow" [.obj 42, .obj 25] K (M20 x n6 tpv (wld x.b.specs tpv x.out 42)) c :=
 ⟨selF, _, dS6 .., rfl, by rw [eE6]; exact q⟩
theorem dR8 (q : Gt P k (V "") xEx [.obj 0, .p s] (OfW K selE (M20 x n6 tpv (wdM 42 w vs lv ++ wld x.b.specs tpv w.out 46 ++ [a, b])) c) (FW (w0 x.b.specs tpv w.out) []) c) : calM (Of (Gt P k)) "" "_law_exec" [.obj 46, .p s] K (M20 x n6 tpv (wdM 42 w vs lv ++ wld x.b.specs tpv w.out 46 ++ [a, b])) c :=
 ⟨selE, _, dD5 .., rfl, by rw [dY]; exact q⟩
theorem dJ7 {p : PV} {w' : FD} {tl : Mem} {c1 : Nat} (h1 : w'.specs = x.b.specs) (h2 : w'.tape = tpv) (h3 : w'.extra = x.out) (q : ∀ vs lv, K (.p p) (M20 x n6 tpv (wdM 42 w' vs lv)) (Nat.max c c1)) : OfW K selF (M20 x n6 tpv (wdM 42 w vs lv)) c (.p p) (FW w' tl) c1 :=
 ⟨Nat.max c c1, ⟨Nat.le_max_left _ _, Nat.le_max_right _ _⟩, .inl ⟨by show 7 <= tl.length + 7; exact zzE _ _, ⟨p, rfl⟩, by rw [dX3, h1, h2, h3]; exact q _ _⟩⟩
theorem dU3 {p : PV} {w' : FD} {tl : Mem} {c1 : Nat} (h1 : w'.specs = x.b.specs) (h2 : w'.tape = tpv) (h3 : w'.extra = w.out) (q : ∀ vs' lv', K (.p p) (M20 x n6 tpv (wdM 42 w vs lv ++ wdM 46 w' vs' lv' ++ [a, b])) (Nat.max c c1)) : OfW K selE (M20 x n6 tpv (wdM 42 w vs lv ++ wdM 46 w1 vs' lv' ++ [a, b])) c (.p p) (FW w' tl) c1 :=
 ⟨Nat.max c c1, ⟨Nat.le_max_left _ _, Nat.le_max_right _ _⟩, .inl ⟨by show 7 <= tl.length + 7; exact zzE _ _, ⟨p, rfl⟩, by rw [eD9, h1, h2, h3]; exact q _ _⟩⟩
end
noncomputable def Kend : Kt (Flw × Loc) := fun x m c => x.1 = .ret (b_ true) /\ c <= bigN
noncomputable def tpV (tp : List Bool) : List PV := tp.map fun b => pi (b2i b)
noncomputable def e0 : En := ⟨0, [], fun i => match Nat.beq i 1 with | true => some (arrV (some [5, 6])) | false => none, [], 63000⟩
structure Bh (tp : List Bool) (sp : List Spec) (n0 : Nat) (t0 t1 : T) (x : LD) : Prop where
 ok : Ok (.cons t0 t1)
 okT : OkT sp false [] (.cons t0 t1)
 ab : Ab 1 (.cons t0 t1)
 kb : KB (.cons t0 t1) <= 6800
 w : W (.cons t0 t1) <= 22000
 nl : nl (.cons t0 t1) <= 80
 dep : dep (.cons t0 t1) <= 26
 vk : Vk n0 (.cons t0 t1)
 n1 : 1 <= n0
 out : x.out = (low (.cons t0 t1) 0 0 0 n0).1
 ne : (low (.cons t0 t1) 0 0 0 n0).1 ≠ []
 rest : x.rest = encL t1
 specs : x.b.specs = sp.map aC1
 spl : sp.length <= 1000
 cnts : ∀ s ∈ sp, s.count < 1000
 tpl : tp.length <= 6
section
variable {P : PI} {tp : List Bool} {sp : List Spec} {n0 c cm : Nat} {t0 t1 : T} {x : LD} {ex : List PV} {vars : Nat -> Option PV} {z : Nat}
theorem bE0 (hs : sp.length <= 1000) (hc : ∀ s ∈ sp, s.count < 1000) (ht : tp.length <= 6) (hv : ∀ i v, vars i = some v -> e0.vars i = some v) (hz : z <= 1000) (hcm : c + 10 * (63000 + z) <= cm) : Rw ⟨tp, sp, ex, [], 0, cm⟩ z { e0 with vars := vars } (w0 (sp.map aC1) (tpV tp) ex) [] c where
 at_ := rfl
 out := rfl
 vars i v q := by
  have q : (match Nat.beq i 1 with | true => some (arrV (some [5, 6])) | false => none) = some v := hv i v q
  cases hi : Nat.beq i 1 with
  | true => rw [hi] at q; cases q; cases zzX hi; rfl
  | false => rw [hi] at q; exact nomatch q
 keys := rfl
 live := ⟨[], rfl, List.nodup_nil, rfl, fun k on cnt h => nomatch h⟩
 specs := rfl
 tape := rfl
 thr := rfl
 ac := ⟨by show 4 * (0 : Int) + ((63000 : Nat) : Int) + (z : Int) <= 80000; lia, hcm, by show 0 + 63000 + z <= 80000; lia⟩
 tpl := nT ht (by decide)
 spl := hs
 cnts := hc
 extra := rfl
 kept := fun _ h => nomatch h
 low := Int.le_refl _
theorem dW0 (h : Bh tp sp n0 t0 t1 x) {n6 : List PV} (hc : c <= 190000) : lawT P (inl (ext P) HW (Of (Gt P 27)) 4) 21 5 (locV (enc t0) []) Kend (M20 x n6 (tpV tp) []) c := by
 have hones : ones tp e0 <= 6 := nT List.count_le_length h.tpl
 have hw := h.w
 obtain ⟨r, e', -, -, h3, -, q⟩ := bJ6 (tp := tp) (sp := sp) (kc := 6800) (.cons t0 t1) false [] 1 e0 h.okT h.ab h.kb ⟨some [5, 6], rfl, fun l z => by cases z; decide⟩ (fun i hi => nomatch hi) (by show W (.cons t0 t1) + 6800 * ones tp e0 <= 63000; lia)
 have hr := h3 rfl
 have oo : Oo e0 := ⟨rfl, fun i v q => by
  have q : (match Nat.beq i 1 with | true => some (arrV (some [5, 6])) | false => none) = some v := q
  cases hi : Nat.beq i 1 with
  | true => rw [hi] at q; cases q; rfl
  | false => rw [hi] at q; exact nomatch q⟩
 have run : ∀ K : KX, (Oo e' -> K r e') -> X tp sp (.cons t0 t1) K e0 := fun K k => x_mo _ (fun r1 e1 => r1 = r /\ e1 = e') K e0 oo (fun r1 e1 o z => by obtain ⟨rfl, rfl⟩ := z; exact k o) (q _ ⟨rfl, rfl⟩)
 rw [cQ2]
 refine dK2 (gt_fl.mpr ?_)
 rw [h.specs]
 have R1 := bE0 (c := c + 11) (cm := c + 11 + 10 * 63008) (ex := x.out) (vars := (e0.plus n0 fun _ => none).vars) (z := 8) h.spl h.cnts h.tpl (fun i v q => by
  have q : (match Nat.ble i n0 with | true => e0.vars i | false => none) = some v := q
  cases hi : Nat.ble i n0 with
  | true => rw [hi] at q; exact q
  | false => rw [hi] at q; exact nomatch q) (by decide) (nR _)
 refine cG3 (k := 26) (z := 0) (vc := n0) (e := e0) (bK0 h.n1 (.cons t0 t1) h.ok h.vk h.nl (zzG (bI6 _) (zzG h.w (by decide)))) (nT h.dep (by decide)) h.nl (zzG (bI6 _) (zzG h.w (by decide))) (nR _) h.ne h.out R1 (run _ fun o => ⟨hr, fun w tl c1 R => ?_⟩)
 rw [rv_p]
 have hsp : w.specs = x.b.specs := R.specs.trans h.specs.symm
 have c1le : c1 <= c + 11 + 10 * 63008 := nT (nA _ _) R.ac.2.1
 rw [<- h.specs]
 refine dJ7 hsp R.tape R.extra fun vs lv => ?_
 rw [cT9]
 have hmax : Nat.max (c + 11) c1 <= c + 11 + 10 * 63008 := zzW.mpr ⟨nA _ _, c1le⟩
 generalize Nat.max (c + 11) c1 = c2 at hmax
 refine dR8 (gt_ex.mpr ⟨⟨tp, sp, w.out, [], 0, c2 + 13 + 10 * 63000⟩, ?_⟩)
 rw [h.specs]
 refine ⟨rfl, rfl, 0, .blk (.cons t0 t1), e0, w0 (sp.map aC1) (tpV tp) w.out, [], nT (zzd h.dep) (by decide), rfl, ⟨rfl, h.ok⟩, by rw [h.rest]; rfl, rfl, bE0 (vars := e0.vars) h.spl h.cnts h.tpl (fun i v q => q) (by decide) (nR _), run _ fun o w' tl' c3 R' => ?_⟩
 rw [rv_p]
 rw [<- h.specs]
 refine dU3 (R'.specs.trans h.specs.symm) R'.tape R'.extra fun vs' lv' => ?_
 rw [dL4]
 have c3le : c3 <= c2 + 13 + 10 * 63000 := nT (nA _ _) R'.ac.2.1
 have hm2 : Nat.max (c2 + 13) c3 <= bigN := zzW.mpr ⟨by unfold bigN; lia, by unfold bigN; lia⟩
 have e1 : w.out = e'.out := R.out
 have e2 : w'.out = e'.out := R'.out
 have k := eG4 r
 refine aI1 k.1 ?_
 rw [k.2]
 refine aI1 ?_ ?_
 ·rw [e1, e2, o.1]; rfl
 ·rw [e1, e2, bH4 8 _ o.1]
  exact ⟨rfl, hm2⟩
end
noncomputable def Glo (P : PI) : Orc := Up P 8 (Up P 12 (Up P 0 (GS 130)))
noncomputable abbrev slk (loc : Loc) : Prop := loc = [] ∨ ∃ u, loc = [(V "s", u)]
section
variable {P : PI} {K : Kt (Flw × Loc)} {y : LD} {r vc c k n : Nat} {f : PV} {t t0 t1 : T} {loc : Loc}
theorem glo_st {args : List MV} {K : Kt MV} {m : Mem} : calM (Glo P) "Low" "stmt" args K m c = GS 130 (V "Low") (V "stmt") args K m c := by kernel_rfl
theorem fo_1 {f : MV -> Loc -> PT (Flw × Loc)} : forO f 23 K (n + 1) k loc (LB y) c = (match y.rest[k]? with | none => K (.next, loc) (LB y) c | some v => f (.p v) loc (turn K (forO f 23 K n (k + 1))) (LB y) c) := by kernel_rfl
theorem cX1 (t : T) : ∀ {y : LD} {vc c k n : Nat} {loc : Loc}, slk loc -> isS t = false -> Lo 130 false y 0 0 vc t -> (∀ i, y.rest[k + i]? = (encL t)[i]?) -> (encL t).length < n ->
  QL y (low t 0 0 y.labels vc) (W t) c (fun y' c' => ∀ loc', slk loc' -> K (.next, aF2 r f ((V "lw", lwV) :: loc')) (LB y') c') -> forO (fsF P (Glo P)) 23 (fsK K) n k (aF2 r f ((V "lw", lwV) :: loc)) (LB y) c := by
 induction t with
 | nil =>
  intro y vc c k n loc hl _ L hr hn q
  match n, hn with
  | n + 1, _ =>
   rw [fo_1, show y.rest[k]? = none from hr 0]
   have := QL.fin (vs := y.b.vars) (ls := y.b.lids) (c₁ := c) q zzR L.vl (nR _) (nA _ _)
   have e : y.out ++ (low .nil 0 0 y.labels vc).1 = y.out := List.append_nil _
   rw [e] at this
   exact this loc hl
 | cons t s _ ih =>
  intro y vc c k n loc hl _ L hr hn q
  match n, hn with
  | n + 1, hn =>
   have h1 := aE7 t 0 0 y.labels vc
   have Lt := (L.part (a := t) (w := W s) (nT (Nat.le_max_left _ _) L.dep) L.ok.2.2.1 L.jl.1 L.vd.1 L.vk.1 (by show W s + W t <= W t + W s; lia)).2
   have Lr := (L.part (a := s) (w := W t) (nT (Nat.le_max_right _ _) L.dep) L.ok.2.2.2 L.jl.2 L.vd.2 L.vk.2 (nR _)).2
   rw [fo_1, show y.rest[k]? = some (enc t) from hr 0]
   have go : calM (Glo P) "Low" "stmt" [lwV, .p (enc t)] (fun _ => turn (fsK K) (forO (fsF P (Glo P)) 23 (fsK K) n (k + 1)) (.next, aF2 r f [(V "lw", lwV), (V "s", .p (enc t))])) (LB y) c := by
    refine glo_st.mpr ⟨rfl, rfl, y, t, false, 0, 0, vc, rfl, rfl, L.ok.1, Lt, fun vs ls c' hp hv a1 a2 => ?_⟩
    refine ih (loc := [(V "s", .p (enc t))]) (.inr ⟨_, rfl⟩) L.ok.2.1 (Lr.to hp ?_ hv) (fun i => ?_) (Nat.lt_of_succ_lt_succ hn) ?_
    ·rw [zzB]; have := h1.1.len; have := bI6 t; have : y.out.length + (W t + W s) <= 900000 := L.ol; lia
    ·show y.rest[k + 1 + i]? = _; rw [show k + 1 + i = k + (i + 1) by lia]; exact hr (i + 1)
    ·exact (QL.seq (r₁ := low t 0 0 y.labels vc) (r₂ := low s 0 0 (low t 0 0 y.labels vc).2.1 (low t 0 0 y.labels vc).2.2) q rfl rfl (nR _)) vs ls c' hp hv a1 a2
   refine hl.elim (fun e => ?_) fun e => ex1 e fun v e => ?_
   ·subst e; exact (dN1 ..).mpr go
   ·subst e; exact (dD7 ..).mpr go
 | _ => exact fun _ h => nomatch h
theorem cN3 {b : BD} (hp : bW7 t0 = true) (L : Lo 130 false ⟨b, encL t1, 0, [], []⟩ 0 0 vc (.cons t0 t1))
  (q : QL ⟨b, encL t1, 0, [], []⟩ (low (.cons t0 t1) 0 0 0 vc) (W (.cons t0 t1)) (c + 10) fun y' c' => ∀ loc', slk loc' -> K (.next, aF2 r (enc t0) ((V "lw", lwV) :: loc')) (LB y') c') : lawT P (inl (ext P) HW (Glo P) 4) 17 3 (aF2 r (enc t0) []) K (GB b ++ [.pl (encL t1)]) c := by
 have hd := zzW.mp L.dep
 have h1 := aE7 t0 0 0 0 vc
 have Lt := (L.part (j := 130 + 32) (a := t0) (w := W t1) (nT hd.1 (by decide)) L.ok.2.2.1 L.jl.1 L.vd.1 L.vk.1 (by show W t1 + W t0 <= W t0 + W t1; lia)).2
 have Lr := (L.part (a := t1) (w := W t0) hd.2 L.ok.2.2.2 L.jl.2 L.vd.2 L.vk.2 (nR _)).2
 rw [eG8]
 cases t0 with
 | pat lid wd sort idx b' =>
  refine up_pt.mpr ⟨rfl, dT (k := 130) (lp := false) (tb := 0) (ta := 0) (vc := vc) Lt fun vs ls c' hp hv a1 a2 => ?_⟩
  refine (dG ..).mpr ⟨(encL t1).length + 1, cX1 t1 (vc := (low (.pat lid wd sort idx b') 0 0 0 vc).2.2) (.inl rfl) L.ok.2.1 (Lr.to hp ?_ hv) (fun i => by show (encL t1)[0 + i]? = _; rw [Nat.zero_add]) (zzb _) ?_⟩
  ·show ([] ++ _ : List PV).length + _ <= _; rw [List.nil_append]; have := h1.1.len; have := bI6 (.pat lid wd sort idx b'); have : 0 + (W (.pat lid wd sort idx b') + W t1) <= 900000 := L.ol; lia
  ·exact (QL.seq (r₁ := low (.pat lid wd sort idx b') 0 0 0 vc) (r₂ := low t1 0 0 (low (.pat lid wd sort idx b') 0 0 0 vc).2.1 (low (.pat lid wd sort idx b') 0 0 0 vc).2.2) q rfl rfl (nR _)) vs ls c' hp hv a1 a2
 | _ => exact nomatch hp
noncomputable def Gbu (P : PI) : Orc := fun x f args K m c => br (f == xBl) (GBk 3 x f args K m c) (x = V "" /\ run P HK (Od (Of (Gu P (GBk 2)))) 4 f args K m c)
theorem gbu_bl {args : List MV} {K : Kt MV} {m : Mem} : cal (Gbu P) "_law_block" args K m c = GBk 3 (V "") xBl args K m c := by kernel_rfl
theorem gbu_pt {args : List MV} {K : Kt MV} {m : Mem} : cal (Gbu P) "_law_pattern" args K m c = (V "" = V "" /\ runK P (Of (Gu P (GBk 2))) "_law_pattern" args K m c) := by kernel_rfl
theorem bO2 {nums : List PV} (hn : allI nums = true)
  (q : ∀ (r : Nat) (t0 t1 : T) (b : BD) (sp : List Spec) (c' : Nat), bW7 t0 = true -> isS t1 = false -> (∀ F, Lt b sp F -> TrF F false t0 /\ TrF F false t1) -> Ab 1 t0 -> Ab 1 t1 -> W t0 + W t1 <= 22000 -> Nn t0 + Nn t1 <= 13 -> KB t0 <= 6800 -> KB t1 <= 6800 -> dl t0 <= 130 -> dl t1 <= 130 ->
   Bi b sp -> b.event < 1000 -> b.vars.length <= 900 -> sp.length <= 1000 -> c' <= c + 900 -> K (.next, locG ++ [(V "sort", i_ r), (V "first", .p (enc t0)), (V "rest", .obj 23)]) (GB b ++ [.pl (encL t1)]) c') :
  lawT P (Od (Gbu P)) 14 3 locG K (GB (b0 nums)) c := by
 have hb : Bi (b0 nums) [] := ⟨hn, rfl, fun s h => (nomatch h), Int.le_refl _, nR _⟩
 rw [cS6]
 refine aI1 hn fun r hr => gbu_pt.mpr ⟨rfl, cJ5 (lp := false) (k := 2) (nR _) (by lia) rfl hb.draw fun t0 b1 sp1 c₁ u₁ s1 r₁ i1 => ?_⟩
 have hb1 := s1.bi hb.draw
 show lawT P (Od (Gbu P)) 16 1 _ K (GB b1) c₁
 rw [dA1]
 refine gbu_bl.mpr ⟨rfl, rfl, b1, sp1, 0, 0, rfl, rfl, rfl, hb1, fun t1 b2 sp2 c2 u₂ s2 r₂ i2 => ?_⟩
 have p1 : b1.left.toNat + u₁ = 12 := s1.pot
 have p2 := s2.pot
 have ev1 : b1.event + (c + 1) <= 0 + c₁ := s1.ev
 have ev2 := s2.ev
 have l1 : sp1.length + (c + 1) <= 0 + c₁ := s1.len
 have l2 := s2.len
 have h1 := s1.hi
 have h2 := s2.hi
 have w1 : W t0 <= 6 + 1683 * (u₁ + 1) := r₁.w
 have w2 : W t1 <= 18 + 1683 * u₂ := r₂.w
 exact q r t0 t1 b2 sp2 c2 i1 i2 (fun F hF => ⟨r₁.fin F (s2.lt hF), r₂.fin F hF⟩) (r₁.ab 1 (show 1 < 2 by decide)) (r₂.ab 1 (zzF (show 1 < 2 by decide) (nT s1.vlen (nR _)))) (by lia) (by have := r₁.nn; have := r₂.nn; lia) r₁.kb r₂.kb r₁.dep r₂.dep (s2.bi hb1) (by lia) (by have v1 : b1.vars.length + (c + 1) <= 2 + c₁ := s1.vb; have := s2.vb; lia) (by lia) (by lia)
end
section
variable {P : PI} {K : Kt (Flw × Loc)} {c r : Nat} {t0 t1 : T} {b : BD} {sp : List Spec} {tp : List Bool}
theorem dI8 {lid sort idx lc vc : Nat} {wd : Bool} {b t1 : T} : (low (.cons (.pat lid wd sort idx b) t1) 0 0 lc vc).1 ≠ [] := by
 show (patL (hasD sort) _ _ _ _).1 ++ _ ≠ []
 cases hasD sort <;> exact fun h => nomatch h
theorem cE7 (hp : bW7 t0 = true) (i1 : isS t1 = false) (hF : ∀ F, Lt b sp F -> TrF F false t0 /\ TrF F false t1) (a0 : Ab 1 t0) (a1 : Ab 1 t1) (hw : W t0 + W t1 <= 22000) (hn : Nn t0 + Nn t1 <= 13) (k0 : KB t0 <= 6800) (k1 : KB t1 <= 6800) (d0 : dl t0 <= 130) (d1 : dl t1 <= 130)
  (hb : Bi b sp) (hev : b.event < 1000) (hv : b.vars.length <= 900) (hs : sp.length <= 1000) (ht : tp.length <= 6)
  (q : ∀ (x : LD) (loc' : Loc) (c' : Nat) (n0 : Nat), slk loc' -> Bh tp sp n0 t0 t1 x -> x.b.nums = b.nums -> c' <= c + 10 + 6 * 22000 -> K (.next, aF2 r (enc t0) ((V "lw", lwV) :: loc')) (LB x) c') : lawT P (inl (ext P) HW (Glo P) 4) 17 3 (aF2 r (enc t0) []) K (GB b ++ [.pl (encL t1)]) c := by
 obtain ⟨f0, f1⟩ := hF ⟨sp, b.vars⟩ ⟨zzR, zzR, hev⟩
 have hvl : b.vars.length = (b.vars.length - 1) + 1 := by have := hb.vars; lia
 have ok : Ok (.cons t0 t1) := ⟨bN1 hp, i1, f0.ok, f1.ok⟩
 have okT : OkT sp false [] (.cons t0 t1) := ⟨f0.okT [], f1.okT []⟩
 have hW : W (.cons t0 t1) <= 22000 := hw
 have hdl : dl (.cons t0 t1) <= 130 := zzW.mpr ⟨d0, d1⟩
 refine cN3 (vc := b.vars.length - 1) hp ⟨hdl, ok, eC7 _ okT, ⟨f0.vd, f1.vd⟩, ⟨f0.vk 1000 (by show b.vars.length <= _; lia), f1.vk 1000 (by show b.vars.length <= _; lia)⟩, fun h => (nomatch h), by show 0 + W (.cons t0 t1) <= _; lia, by show 0 + W (.cons t0 t1) <= _; lia, hvl⟩ fun vs ls c' _ _ h1 h2 loc' hl => ?_
 refine q _ loc' c' (b.vars.length - 1) hl ⟨ok, okT, ⟨a0, a1⟩, zzW.mpr ⟨k0, k1⟩, hW, nT (dV8 _) (by show 4 * (Nn t0 + Nn t1) <= 80; lia), by have := dG3 (.cons t0 t1); lia, ⟨f0.vk _ (Nat.le_of_eq hvl), f1.vk _ (Nat.le_of_eq hvl)⟩, by have := hb.vars; lia, List.nil_append _, ?_, rfl, hb.spE, hs, fun s h => zzG (hb.cnt s h) (by decide), ht⟩ rfl (by lia)
 cases t0 with
 | pat lid wd sort idx b' => exact dI8
 | _ => exact nomatch hp
end
section
variable {P : PI} {C : Cx} {N : Fns}
theorem dA6 (S : StaF C (ext P) N) : Snd C N 92 (Gbu P) := by
 intro x f args K m c hK e0
 refine br_e e0 (fun _ e => aN2 S (aS S 3 (nR _)) x f args K m c hK e) fun _ e => ?_
 obtain ⟨rfl, e⟩ := e
 exact aD8 (by decide) (aH0 (n := 4) S (aM8 S (aK0 (cK5 S (aN2 S (aS S 2 (by decide)))))) hK e)
theorem cY1 (S : StaF C (ext P) N) : Snd C N 156 (Glo P) := good_up (aE9 S (aE9 S (aE9 S (dP2 S 130))))
where good_up {G : Orc} (h : Snd C N (130 + 0 + 2 + 12 + 2 + 8 + 2) G) : Snd C N 156 G := h
theorem dB8 (S : StaF C (ext P) N) : Snd C N 270 (Gt P 27) := fun x f args K m c hK e => br_e e (fun _ e => cV8 S x f args K m c hK e) fun _ e => ex1 e fun g e => aD8 (by decide) (bY8 (g := g) S x f args K m c hK e)
end
section
variable {C : Cx} {P : PI} {N : Fns} {ρ ρ' : Rho} {m : Mem} {c n d : Nat} {s : Shared} {A : Around} {E : Value -> Shared -> Prop} {cl : Orc} {fz : Str -> Bool} {env : Env} {loc : Loc}
theorem aY1 {h : Heap} {a b : Addr} {o o' : Obj} (e1 : h.get? a = some o) (e2 : h.get? b = some o') (n : o = o' -> False) : a ≠ b := fun q => by subst q; exact n (zzC (e1.symm.trans e2))
theorem bM6 {h : Heap} {a : Addr} {f : Str -> Option Value} (x : h.Ns a f) : ∃ o, h.get? a = some o /\ ∃ es n, o.data = .dict es n := ex3 x fun o es ep q => ⟨o, q.1, es, ep, q.2.1⟩
theorem bK4 {h : Heap} {L b : Addr} {f : Str -> Option Value} {o : Obj} (x : h.Ns L f) (e : h.get? b = some o) (q : ∀ es n, o.data = .dict es n -> False) : b ≠ L := ex1 (bM6 x) fun oL eL => aY1 e eL.1 fun w => ex2 eL.2 fun es n z => q es n (w ▸ z)
theorem dM0 {h : Heap} {it aL b : Addr} {j : Nat} {o : Obj} (x : h.IsListIter it aL j) (e : h.get? b = some o) (q : ∀ vs, o.data = .fields vs -> False) : b ≠ it := ex1 x fun oi ei => aY1 e ei.1 fun w => q _ ((congrArg Obj.data w).trans ei.2.2)
theorem dL0 {h : Heap} {it aL L : Addr} {j : Nat} {f : Str -> Option Value} (x : h.Ns L f) (y : h.IsListIter it aL j) : L ≠ it := ex1 y fun oi ei => (bK4 x ei.1 fun _ _ z => nomatch ei.2.2.symm.trans z).symm
theorem eB4 {h : Heap} {e it L : Addr} {j : Int} {old : Value} {f : Str -> Option Value} (x : h.Ns L f) (y : IsEnum h e it j old) : L ≠ e := (bK4 x y fun _ _ z => nomatch z).symm
theorem aZ8 {h h' : Heap} {it aL : Addr} {j : Nat} (x : h.IsListIter it aL j) (k : ∀ o, h.get? it = some o -> (∃ vs, o.data = .fields vs) -> h'.get? it = some o) : h'.IsListIter it aL j := ex1 x fun o q => ⟨o, k o q.1 ⟨_, q.2.2⟩, q.2⟩
theorem cI4 {xa xn z : Str} {u w v : MV} (e : List.lookup z [(xa, u), (xn, w)] = some v) : (z = xa /\ v = u) ∨ (z ≠ xa /\ z = xn /\ v = w) := by
 by_cases q : z = xa
 ·subst q; rw [List.lookup_cons_self] at e; exact .inl ⟨rfl, (zzC e).symm⟩
 ·rw [zzQ, beq_false_of_ne q] at e
  by_cases q2 : z = xn
  ·subst q2; exact .inr ⟨q, rfl, (zzC ((List.lookup_cons_self ..).symm.trans e)).symm⟩
  ·change List.lookup z [(xn, w)] = _ at e
   rw [zzQ, beq_false_of_ne q2] at e; exact nomatch e
theorem bR2 {cenv : Env} {xa xn : Str} {j x : Int} {t t' : Tok} {s' : Shared} {g : Str -> Option Value} (hka : cenv.scope.names.lookup xa = some .local) (hkn : cenv.scope.names.lookup xn = some .local) (hab : xa ≠ xn) (k0 : ∀ b o, C.h₀.get? b = some o -> s'.heap.get? b = some o) (n0 : C.h₀.get? cenv.locals = none)
  (hn : s'.heap.Ns cenv.locals (fun z => if z = xn then some (.int x t) else if z = xa then some (.int j t') else g z)) : Afr C cenv ρ0 [] 0 [(xa, i_ j), (xn, i_ x)] s' := by
 have hz : ∀ {z v}, List.lookup z [(xa, i_ j), (xn, i_ x)] = some v -> cenv.scope.names.lookup z = some .local := fun e => (cI4 e).elim (fun q => q.1.symm ▸ hka) fun q => q.2.1.symm ▸ hkn
 refine ⟨⟨rfl, List.nodup_nil, fun _ q => (nomatch q), fun _ q => (nomatch q), k0, fun i a o e => nomatch e⟩, ⟨_, hn, fun z v e _ => (cI4 e).elim (fun q => ?_) fun q => ?_⟩, fun z v e w => w.elim (fun w => (nomatch (hz e).symm.trans (show cenv.scope.names.lookup z = _ from w))) (fun w => (nomatch (hz e).symm.trans (show cenv.scope.names.lookup z = _ from w))), ⟨List.not_mem_nil, List.not_mem_nil⟩, n0⟩
 ·rw [q.1, q.2, if_neg hab, if_pos rfl]; exact ⟨_, rfl, _, rfl⟩
 ·rw [q.2.1, q.2.2, if_pos rfl]; exact ⟨_, rfl, _, rfl⟩
theorem cQ9 {h : Heap} {ρ : Rho} {l : List Int} {vs : List Value} {j : Nat} {x : Int} (r : RepPs C h ρ (l.map .int) vs) (e : l[j]? = some x) : ∃ t, vs[j]? = some (.int x t) := ex1 (r.get (x := .int x) (by rw [zza, e]; rfl)) fun v rv => ex1 rv.2 fun t ev => ⟨t, ev ▸ rv.1⟩
theorem bT9 {cenv : Env} {elt iter : Expr} {xa xn : Str} {pa pn tp pos : Pos} {kk n₀ : Nat} {scope : Scope} {aL e it D : Addr} {l outs : List Int} {vs : List Value} {R : Result -> Shared -> Prop} {h₀ : Heap} {s4 : Shared} {g : Str -> Option Value}
  (he : SimE C P d fz cl elt) (O : EnvOk cenv) (hA : aN3 d A) (k0 : ∀ b o, C.h₀.get? b = some o -> h₀.get? b = some o) (n0 : C.h₀.get? cenv.locals = none) (hx : h₀.get? aL = some (listOf vs.toArray n₀)) (r : RepPs C h₀ ρ (l.map .int) vs) (hka : cenv.scope.names.lookup xa = some .local) (hkn : cenv.scope.names.lookup xn = some .local) (hab : xa ≠ xn)
  (fL : h₀.get? cenv.locals = none) (fE : h₀.get? e = none) (fI : h₀.get? it = none) (hei : e ≠ it) (fD : h₀.get? D = none)
  (k4 : ∀ b o, h₀.get? b = some o -> s4.heap.get? b = some o) (hE : IsEnum s4.heap e it 0 .none) (hit : s4.heap.IsListIter it aL 0) (hn : s4.heap.Ns cenv.locals g) (hD : s4.heap.get? D = some (listOf ([] : List Value).toArray 0)) (ho : outs.length = l.length) (hb : l.length <= 1000)
  (helt : ∀ (j : Nat) (x y : Int), l[j]? = some x -> outs[j]? = some y -> ∀ (K : Kt MV) m c, K (i_ y) m c -> evE P fz cl elt cenv.scope [(xa, i_ j), (xn, i_ x)] K m c)
  (k : ∀ s' us n g, s'.gens = s4.gens -> s'.drawn = s4.drawn -> s'.os = s4.os -> (∀ b o, h₀.get? b = some o -> s'.heap.get? b = some o) -> s'.heap.get? D = some (listOf us.toArray n) -> RepPs C h₀ ρ (outs.map .int) us -> s'.heap.Ns cenv.locals g -> R (.ok .next) s') :
  codeAny (model C.prog C.w) A (.compLoop (.ListComp elt [⟨.Tuple [.Name xa pa, .Name xn pn] kk tp, iter, [], 0⟩] scope pos) 0 (.ref e) (.ref D) cenv) R s4 := by
 refine kcp_loop (I := fun f s' => ∃ j us old, ∃ g n, f + j = l.length + 1 /\ (s'.gens = s4.gens /\ s'.drawn = s4.drawn /\ s'.os = s4.os) /\ (∀ b o, h₀.get? b = some o -> s'.heap.get? b = some o) /\ IsEnum s'.heap e it ((j : Nat) : Int) old /\ s'.heap.IsListIter it aL j /\ s'.heap.Ns cenv.locals g /\
  s'.heap.get? D = some (listOf us.toArray n) /\ RepPs C h₀ ρ ((outs.take j).map .int) us) ?_ (l.length + 1) ⟨0, [], .none, g, 0, rfl, ⟨rfl, rfl, rfl⟩, k4, hE, hit, hn, hD, rfl⟩
 refine fun f s' q => ex3 q fun j us old q => ex2 q fun g n q => ?_
 obtain ⟨hm, hg, kk', hE, hit, hn, hD, ru⟩ := q
 have hLs := aB6 (kk' _ _ hx)
 cases hj : l[j]? with
 | none =>
  have hjl := List.getElem?_eq_none_iff.mp hj
  rw [List.take_of_length_le (ho ▸ hjl)] at ru
  exact wpAny_pyNext_enum_end hA.1 hE hit hLs (by rw [List.getElem?_toArray, List.getElem?_eq_none_iff, r.length, zzZ]; exact hjl) fun h₂ hs =>
   k { s' with heap := h₂ } us n g hg.1 hg.2.1 hg.2.2 (fun b o e => hs b o (aC7 e fI) (kk' b o e)) (hs D _ (dM0 hit hD fun _ z => nomatch z) hD) ru (hn.at' fun o e => hs _ o (dL0 hn hit) e)
 | some x =>
  have hlt := (zzA.mp hj).1
  have hy : outs[j]? = some (outs[j]'(ho ▸ hlt)) := zzT _
  generalize outs[j]'(ho ▸ hlt) = y at hy
  refine ex1 (cQ9 r hj) fun tv rv => wpAny_pyNext_enum_item hE hit hLs (x := .int x tv) (List.getElem?_toArray.trans rv) hei fun h₂ heo hit2 hT hz hk => wpAny_letOwnedTupleGo_enum heo fun h3 he3 hs3 => ?_
  replace hs3 : Heap.SameBut e h₂ h3 := hs3
  have k3 : ∀ b o, b ≠ e -> b ≠ it -> s'.heap.get? b = some o -> h3.get? b = some o := fun b o h1 h2 eb => (hs3.2 b h1).trans (hk b o h1 h2 eb)
  have hit3 : h3.IsListIter it aL (j + 1) := aZ8 hit2 fun o q _ => (hs3.2 it hei.symm).trans q
  have n3 : h3.Ns cenv.locals g := hn.at' fun o e => k3 _ o (eB4 hn hE) (dL0 hn hit) e
  have D3 : h3.get? D = some (listOf us.toArray n) := k3 D _ (aY1 hD hE fun q => nomatch congrArg Obj.data q) (dM0 hit hD fun _ z => nomatch z) hD
  refine kcp_assign hA.1 ⟨_, (hs3.2 _ (Nat.ne_of_gt (Heap.lt_size hE))).trans hT, rfl, _, rfl⟩ hka hkn (by rw [O.kind]; rfl) n3 fun h4 tk hn4 hs4 => ?_
  have k4' : ∀ b o, h₀.get? b = some o -> h4.get? b = some o := fun b o e => hs4 b o (aC7 e fL) (k3 b o (aC7 e fE) (aC7 e fI) (kk' b o e))
  refine he.sim ⟨O, bR2 (s' := { s' with heap := h4, toks := tk }) hka hkn hab (fun b o e => k4' b o (k0 b o e)) n0 hn4, hA⟩ (K := fun v _ c => v = i_ y /\ c = 0) (fun _ _ _ e => e.2 ▸ zzN _) (helt j x y hj hy _ _ _ ⟨rfl, rfl⟩) fun v w ρ7 m7 c7 s7 ew n7 r7 => ?_
  rw [ew.1] at r7
  refine ex1 r7 fun ty ey => ?_
  subst ey
  have k7 : ∀ {b o}, b ≠ cenv.locals -> h3.get? b = some o -> s7.heap.get? b = some o := fun nl e => n7.keep _ _ (hs4 _ _ nl e) List.not_mem_nil
  have he3 : IsEnum h3 e it ((j : Int) + 1) (.int x tv) := he3
  have D7 := k7 (bK4 n3 D3 fun _ _ q => nomatch q) D3
  have E7 := k7 (bK4 n3 he3 fun _ _ q => nomatch q) he3
  have I7 : s7.heap.IsListIter it aL (j + 1) := aZ8 hit3 fun o q d => k7 (bK4 n3 q fun _ _ w => ex1 d fun _ d => nomatch d.symm.trans w) q
  have N7 : s7.heap.Ns cenv.locals _ := hn4.at' fun o e => n7.keep _ o e List.not_mem_nil
  refine append_at D7 (fun h9 hs9 hd9 => ?_) (by rw [zzV, ru.length, zzZ, List.length_take]; exact nT (Nat.min_le_right _ _) (ho ▸ nT hb (by decide)))
  have ne9 : ∀ {b o}, b ≠ D -> s7.heap.get? b = some o -> h9.get? b = some o := fun nb e => (hs9.2 _ nb).trans e
  cases f with
  | zero => exact absurd ((Nat.zero_add j).symm.trans hm) (Nat.ne_of_lt (Nat.lt_succ_of_lt hlt))
  | succ f =>
   exact ⟨f, zzb f, j + 1, us ++ [.int y ty], .int x tv, _, n + 1, (Nat.succ_add_eq_add_succ f j).symm.trans hm, ⟨n7.gens.trans hg.1, n7.drawn.trans hg.2.1, n7.os.trans hg.2.2⟩, fun b o e => ne9 (aC7 e fD) (n7.keep b o (k4' b o e) List.not_mem_nil), ne9 (aY1 E7 D7 fun q => nomatch congrArg Obj.data q) E7,
    aZ8 I7 fun o q d => ne9 (aY1 q D7 fun w => ex1 d fun _ d => nomatch d.symm.trans (congrArg Obj.data w)) q, N7.at' fun o e => ne9 (bK4 N7 D7 fun _ _ z => nomatch z).symm e, hd9.trans (congrArg (fun a => some (listOf a _)) (List.push_toArray us _)), by
     rw [List.take_add_one, hy, List.map_append]; exact RepPs.append (r := [.int y]) (us := [.int y ty]) ⟨_, [], rfl, ⟨ty, rfl⟩, rfl⟩ ru⟩
theorem cB (S : StaF C P N) {elt arg : Expr} {xa xn xe y : Str} {pa pn tp py ep cpos pos spos : Pos} {kk c₁ : Nat} {scope : Scope} {l outs : List Int} {Q : Flow -> Shared -> Prop} (he : SimE C P d fz cl elt) (ha : SimE C P d fz cl arg) (g : Cfg C d env A ρ m c loc s)
  (hsw : swapsWith (.ListComp elt [⟨.Tuple [.Name xa pa, .Name xn pn] kk tp, .Call (.Name xe ep) [arg] [] cpos, [], 0⟩] scope pos) (some (.Name y py)) spos.line env = pure true)
  (hkind : scope.kind = .function) (hnames : ∀ z ∈ scope.names, (z.2 = .local -> scope.names.lookup z.1 = some .local) /\ z.2 ≠ .cell /\ z.2 ≠ .free) (hxa : scope.names.lookup xa = some .local) (hxn : scope.names.lookup xn = some .local) (hab : xa ≠ xn) (hy : env.scope.names.lookup y = some .local) (hst : aS6 arg = true)
  (hen : ∀ (K : Kt MV) m c, K (.blt "enumerate") m c -> evN P env.scope xe loc K m c) (harg : ∀ K : Kt MV, K (.obj m.length) (m ++ [.pl (l.map .int)]) c₁ -> evE P fz cl arg env.scope loc K m c) (hc : c₁ + l.length <= bigN) (hb : l.length <= 1000) (ho : outs.length = l.length)
  (helt : ∀ (j : Nat) (x y : Int), l[j]? = some x -> outs[j]? = some y -> ∀ (K : Kt MV) m c, K (i_ y) m c -> evE P fz cl elt (bD5 scope env.scope) [(xa, i_ j), (xn, i_ x)] K m c)
  (k : ∀ ρ' s', Nz C env ρ s ((m ++ [.pl (l.map .int)]) ++ [.pl (outs.map .int)]) (c₁ + l.length) (setL y (.obj (m.length + 1)) loc) ρ' s' -> Q .next s') :
  wpAny (model C.prog C.w) A (exec (.Assign [.Name y py] (.ListComp elt [⟨.Tuple [.Name xa pa, .Name xn pn] kk tp, .Call (.Name xe ep) [arg] [] cpos, [], 0⟩] scope pos) spos) env) Q E s := by
 rw [exec_Assign_Name_used _ _ _ _ hsw]
 refine wpAny_bind (wpAny_standAt (wpAny_bind ?_))
 show wpAny _ A (do let _ <- comprehension (.ListComp elt [⟨.Tuple [.Name xa pa, .Name xn pn] kk tp, .Call (.Name xe ep) [arg] [] cpos, [], 0⟩] scope pos) scope env _ (PySem.newList []) false (eval (.Call (.Name xe ep) [arg] [] cpos) env) (some (assign (.Name y py) env))) _ _ s
 refine wpAny_bind (wpAny_mono (wpAny_comprehension_free (use := some (assign (.Name y py) env)) (Q := fun _ s' => Q .next s') rfl (fun _ => rfl) (aR0 fun n hn => absurd rfl (hnames _ hn).2.2) hkind (fun z hz => (hnames z hz).1) ?_) (fun _ s' hq => wpAny_pure (wpAny_pure hq)) fun _ _ e => e)
 refine Call_Name rfl (bB5 S.toSta g.O g.a (hen (fun v m' c' => v = .blt "enumerate" /\ m' = m /\ c' = c) _ _ ⟨rfl, rfl, rfl⟩) fun f f' ρ1 m1 c' s1 e n1 r1 => ?_)
 obtain ⟨rfl, rfl, rfl⟩ := e
 refine aP1 (h := s1.heap) (ρ := ρ1) S (g := .blt "enumerate") ⟨r1, rfl⟩ (fun _ q => nomatch q) (bB9 (by rw [List.all_cons, hst]; rfl)) ((aW6 ha bH5 _).sim (K := fun v m' c' => v = [.obj m1.length] /\ m' = m1 ++ [.pl (l.map .int)] /\ c' = c₁) (g.next n1) (fun _ _ _ e => e.2.2 ▸ nT (nA _ _) hc) (harg (fun v m c => _) ⟨rfl, rfl, rfl⟩) fun vs vals ρ2 m2 c2 s2 e n2 r2 => ⟨S.kin.keeps n2.sh.keep0, ?_⟩)
 obtain ⟨rfl, rfl, rfl⟩ := e
 refine ex2 r2 fun v r' q => ?_
 obtain ⟨rfl, r2, r3⟩ := q
 refine ex1 r2 fun aL q => ?_
 obtain ⟨hi0, rfl⟩ := q
 cases (show r' = [] from r3)
 refine ex2 (n2.sh.cell _ aL _ hi0 (aF6 rfl)) fun vs n₀ q => ?_
 cases (show f' = .type "enumerate" from r1)
 show wpAny _ _ (call (.type "enumerate") [.ref aL]) _ _ _
 refine call_enumerate_list (aB6 q.1) fun H1 hE hit hz1 p1 => ?_
 refine wpAny_pyIter_enum hE ?_
 refine wpAny_newObj_type (wpAny_newFunctionEnv (fun z hz => (hnames z hz).2.1) (fun y hy => nomatch hy) (fun h₁ hns1 hsb1 => ?_) hkind)
 dsimp only at hns1 hsb1 ⊢
 generalize hH2 : H1.push { cls := .type "list", dict := none, data := .seq ([] : List Value).toArray } = H2 at hns1 hsb1 ⊢
 have z2 : H2.objs.size = H1.objs.size + 1 := hH2 ▸ Heap.size_push ..
 have p0 : ∀ b o, H2.get? b = some o -> h₁.get? b = some o := fun b o e => hsb1.extBut b o (Nat.ne_of_lt (Heap.lt_size e)) (Heap.get?_push_of_some _ e)
 have p3 : ∀ b o, H1.get? b = some o -> h₁.get? b = some o := fun b o e => p0 b o (hH2 ▸ Heap.get?_push_of_some _ e)
 have gD := p0 _ _ (show H2.get? H1.objs.size = some (W.listOf ([] : List Value).toArray 0) from hH2 ▸ Heap.get?_push_size _ rfl)
 have fr : ∀ {m : Nat}, s2.heap.objs.size <= m -> s2.heap.get? m = none := fun {m} hm => by
  cases e : s2.heap.get? m with
  | none => rfl
  | some o' => exact absurd (Heap.lt_size e) (Nat.not_lt.mpr hm)
 have fD : s2.heap.get? H1.objs.size = none := fr (by lia)
 have fL : s2.heap.get? H2.objs.size = none := fr (by lia)
 have loop : codeAny (model C.prog C.w) A (.compLoop (.ListComp elt [⟨.Tuple [.Name xa pa, .Name xn pn] kk tp, .Call (.Name xe ep) [arg] [] cpos, [], 0⟩] scope pos) 0 (.ref (s2.heap.objs.size + 1)) (.ref H1.objs.size) (compEnvC scope (clos env scope.names []) H2.objs.size env))
   (compPost (model C.prog C.w) A E (some (assign (.Name y py) env)) (fun _ s' => Q .next s') (.ref H1.objs.size) H2.objs.size) { s2 with heap := h₁, toks := s2.toks + ([] : List (Str × Value)).length } := by
  refine bT9 he (cenv := compEnvC scope (clos env scope.names []) H2.objs.size env) ⟨hkind, g.O.glob, g.O.blt⟩ g.r n2.sh.keep0 (n2.sh.new0 fL) q.1 q.2.1 (lookup_relabel_local hxa) (lookup_relabel_local hxn) hab fL (fr (Nat.le_succ _)) (fr (nR _)) (Nat.succ_ne_self _) fD (fun b o e => p3 b o (p1 b o e)) (p3 _ _ hE) (ex1 hit fun o q => ⟨o, p3 _ _ q.1, q.2⟩) hns1 gD ho hb helt fun s' us n gg g1 g2 g3 kk hD ru hN => ?_
  have nx : Nx C ρ2 s2 ((m1 ++ [.pl (l.map .int)]) ++ [.pl (outs.map .int)]) (c2 + l.length) (ρ2.new H1.objs.size) s' := ⟨Sh.new n2.sh (nA _ _) fD kk ⟨us, n, hD, ru.mono (Keep.all kk).d (Grow.one fD).toLess, by rw [zzZ, ho]; exact zzE _ _⟩, Keep.all kk, Grow.one fD, g1, g2, g3⟩
  have N := (n1.trans n2).trans nx
  show wpAny _ A (assign (.Name y py) env (.ref H1.objs.size)) _ _ _
  refine PyProof.Rows.assign_Name (aJ3 g.O (g.a.next N) (v := .obj (m1.length + 1)) (k := fun x => x = setL y (.obj (m1.length + 1)) loc) ⟨H1.objs.size, aF6 (n2.sh.len.trans (zzB ..)), rfl⟩ (by unfold setN; rw [hy]) fun loc' s'' e n'' => ?_)
  subst e
  refine ex1 (bM6 hN) fun oL eL => ?_
  have nl : H2.objs.size ∉ (ρ2.new H1.objs.size).a /\ H2.objs.size ∉ (ρ2.new H1.objs.size).f := ⟨fun q => (zzP.mp q).elim (aB9 n2.sh fL) fun q => Nat.ne_of_gt (z2 ▸ zzb _) (zzJ.mp q), fun q => ex1 (n2.sh.froz _ q).2.2 fun o e => nomatch e.symm.trans fL⟩
  have nC : H2.objs.size ≠ env.locals := fun q => ex1 (g.a.next (n1.trans n2)).there fun oL eL => aC7 eL.1 fL q.symm
  have eL' := n''.keep _ _ eL.1 nl.1 nC
  refine ⟨gg, hN.at' fun o eo => n''.keep _ _ eo nl.1 nC, fun h' hs => k (ρ2.new H1.objs.size) _ ?_⟩
  have n3 := (Nz.of g.a N).trans n''
  have b := n3.at_.but (t := s''.toks) eL' (ex2 eL.2 fun _ _ z => aR7 z) (n2.sh.new0 fL) nl nC hs.extBut
  exact ⟨b.2, fun b o eb nm nl => (hs.2 b (aC7 ((n1.trans n2).keep b o eb nm) fL)).trans (n3.keep b o eb nm nl), n3.grow, n3.gens, n3.drawn, n3.os⟩
 exact codeAny_compStart_list loop (wpAny_pyIter_enum (p3 _ _ hE) loop)
end
section
noncomputable def asgS (s : Stmt) : List Expr × Pos := ((aQ6 s).2.2.2.2.1, (aQ6 s).2.2.2.2.2.2.2)
noncomputable abbrev pE (e : Expr) : Pos := (bU1 e).2.1
noncomputable abbrev nE (e : Expr) : Nat := (bU1 e).2.2.1
noncomputable def tpS : Stmt := atS bodyLaw 20
noncomputable def tpX : Expr := (asgS tpS).1.getD 0 cD0
noncomputable def tpT : Expr := (asgS tpS).1.getD 1 cD0
noncomputable def tpSc : Scope := (bU1 tpX).2.2.2
noncomputable def tpG : Expr := kE tpX 1
noncomputable def tpI : Expr := kE tpX 2
noncomputable def elt0 (e : Expr) : Expr := .BinOp (.BinOp (.BinOp (.Name (V "n") (pE (kE (kE (kE e 0) 0) 0))) .Add (.BinOp (.Name (V "at") (pE (kE (kE (kE (kE e 0) 0) 1) 0))) .Mult (.Name (V "at") (pE (kE (kE (kE (kE e 0) 0) 1) 1))) (pE (kE (kE (kE e 0) 0) 1))) (pE (kE (kE e 0) 0))) .FloorDiv (.Constant (.int 3) (nE (kE (kE e 0) 1)) (pE (kE (kE e 0) 1))) (pE (kE e 0))) .Mod (.Constant (.int 2) (nE (kE e 1)) (pE (kE e 1))) (pE e)
noncomputable def arg0 (e : Expr) : Expr := .Subscript (.Name (V "numbers") (pE (kE e 0))) (.Slice none (some (.Constant (.int 6) (nE (kE (kE e 1) 0)) (pE (kE (kE e 1) 0)))) none (pE (kE e 1))) (pE e)
noncomputable def tpE : Expr := elt0 (kE tpX 0)
noncomputable def tpA : Expr := arg0 (kE tpI 1)
theorem eC : tpS = .Assign [.Name (V "tape") (pE tpT)] (.ListComp tpE [⟨.Tuple [.Name (V "at") (pE (kE tpG 0)), .Name (V "n") (pE (kE tpG 1))] (nE tpG) (pE tpG), .Call (.Name (V "enumerate") (pE (kE tpI 0))) [tpA] [] (pE tpI), [], 0⟩] tpSc (pE tpX)) (asgS tpS).2 := by kernel_rfl
theorem bX4 : bodyLaw = (bodyLaw.drop 0).take 2 ++ ((bodyLaw.drop 2).take 12 ++ ((bodyLaw.drop 14).take 3 ++ ((bodyLaw.drop 17).take 3 ++ (tpS :: (bodyLaw.drop 21).take 5)))) := by kernel_rfl
theorem cT6 : tpSc.kind = .function := by kernel_rfl
theorem cG0 : (tpSc.names.all fun z => (z.2 == .local || z.2 == .globalImplicit) && (z.2 != .local || tpSc.names.lookup z.1 == some .local)) = true := by kernel_rfl
theorem dZ6 : tpSc.names.lookup (V "at") = some .local := by kernel_rfl
theorem tp_n : tpSc.names.lookup (V "n") = some .local := by kernel_rfl
theorem bM0 : scLaw.names.lookup (V "tape") = some .local := by kernel_rfl
theorem cU0 : ((pE tpT).line == (pE tpX).line && !(tpSc.names.any fun z => z.1 == V "tape" && (z.2 == .local || z.2 == .cell))) = true := by kernel_rfl
theorem cE3 {env : Env} (O : EnvOk env) (hsc : env.scope = scLaw) {g : List Comprehension} : swapsWith (.ListComp tpE g tpSc (pE tpX)) (some (.Name (V "tape") (pE tpT))) (asgS tpS).2.line env = pure true := by
 have hbk : env.blockKind = .function := by unfold Env.blockKind; rw [show env.scope.kind.isAnnotationScope = false by rw [O.kind]; rfl]; exact O.kind
 have hk : env.kindOf (V "tape") = some .local := by show env.scope.names.lookup _ = _; rw [hsc]; exact bM0
 show (pure (env.blockKind == .function && env.kindOf (V "tape") == some .local && (pE tpT).line == (pE tpX).line && !(tpSc.names.any fun (n, k) => n == V "tape" && (k == .local || k == .cell))) : Sem Bool) = pure true
 rw [hbk, hk]
 exact aA cU0 fun h1 h2 => by rw [h1, show (!(tpSc.names.any fun (n, k) => n == V "tape" && (k == .local || k == .cell))) = true from h2]; rfl
variable (P : PI) (x : LD) (cl : Orc) (K : Kt MV) (m : Mem) (c : Nat)
noncomputable abbrev bK1 (f : PV) : Loc := [(V "numbers", .obj 0), (V "st", .obj 1), (V "first", .p f), (V "rest", .obj 23), (V "lw", lwV)]
theorem dN6 (f : PV) : evE (ext P) fzV cl tpA scLaw (bK1 f) K (LB x) c = K (.obj 40) (LB x ++ [.pl ((x.b.nums.drop 0).take 6)]) (c + 6) := by kernel_rfl
theorem eA9 (f : PV) : evN (ext P) scLaw (V "enumerate") (bK1 f) K m c = K (.blt "enumerate") m c := by kernel_rfl
theorem dI2 (j i : Int) : evE (ext P) fzV cl tpE (bD5 tpSc scLaw) [(V "at", i_ j), (V "n", i_ i)] K m c = chk (bA3 j j) (K (i_ (((i + j * j).fdiv 3).fmod 2)) m c) := by kernel_rfl
noncomputable abbrev selT : List Nat := [0, 1, 2, 3, 4, 5, 6, 7, 8, 9, 10, 11, 12, 13, 14, 15, 16, 17, 18, 19, 20, 21, 22, 23, 24, 25, 26, 27, 28, 29, 30, 31, 32, 33, 34, 35, 36, 37, 38, 39]
noncomputable abbrev nmT : List Str := [V "numbers", V "st", V "first", V "rest", V "lw"]
theorem dT2 : aI0 selT (LB x) selT = some (LB x) := by kernel_rfl
theorem cN0 (r : Nat) (f : PV) : aQ8 selT (aF2 r f [(V "lw", lwV)]) nmT = some (bK1 f) := by kernel_rfl
theorem dB7 (r : Nat) (f : PV) (u : MV) : aQ8 selT (aF2 r f [(V "lw", lwV), (V "s", u)]) nmT = some (bK1 f) := by kernel_rfl
theorem dL2 (a b : List PV) : (LB x ++ [.pl a]) ++ [.pl b] = M20 x a b [] := by kernel_rfl
noncomputable def bK7 (ns : List Int) : List Bool := (ns.take 6).zipIdx.map fun p => decide (((p.1 + p.2 * p.2).fdiv 3).fmod 2 = 1)
theorem aW (ns : List Int) : (bK7 ns).length = (ns.take 6).length := by unfold bK7; rw [zzZ, List.length_zipIdx]
theorem cG7 (z : Int) : b2i (decide (z.fmod 2 = 1)) = z.fmod 2 := by
 have h1 : 0 <= z.fmod 2 := Int.fmod_nonneg_of_pos _ (by decide)
 have h2 : z.fmod 2 < 2 := Int.fmod_lt_of_pos _ (by decide)
 rcases (show z.fmod 2 = 0 ∨ z.fmod 2 = 1 by lia) with h | h <;> rw [h] <;> rfl
theorem bT4 {j : Nat} (h : j < 6) : bA3 j j = true := by
 have : decide (j < 2 ^ 31) = true := decide_eq_true (Nat.lt_trans h (by decide))
 show (decide (j < 2 ^ 31) && decide (j < 2 ^ 31)) = true
 rw [this]; rfl
theorem cP2 {ns : List Int} {j : Nat} {i y : Int} (h : (ns.take 6)[j]? = some i) (e : ((bK7 ns).map b2i)[j]? = some y) : y = ((i + j * j).fdiv 3).fmod 2 := by
 unfold bK7 at e
 rw [List.map_map, zza, List.getElem?_zipIdx, h] at e
 have := zzC e
 rw [<- this, <- cG7]
 simp only [Function.comp, Nat.zero_add]
theorem cP5 {l : List PV} (h : bJ0 l = true) : ∃ ns : List Int, l = ns.map .int := by
 induction l with
 | nil => exact ⟨[], rfl⟩
 | cons x l ih =>
  cases x with
  | int i => exact ex1 (ih h) fun ns e => ⟨i :: ns, congrArg _ e⟩
  | _ => exact nomatch h
end
section
variable {C : Cx} {P : PI} {N : Fns} {ρ ρ' : Rho} {m m' : Mem} {c c' d : Nat} {s s' : Shared} {A : Around} {E : Value -> Shared -> Prop} {cl : Orc} {fz : Str -> Bool} {env : Env} {loc loc' : Loc} {Q : Flow -> Shared -> Prop}
noncomputable abbrev cW (s s' : Shared) : Prop := s'.gens = s.gens /\ s'.os = s.os
theorem cN6 {l rest : List Stmt} {K : Kt (Flw × Loc)} (O : EnvOk env) (hA : aN3 d A) (hK : Bd K) (hn : ∀ x m c, K x m c -> x.1 = .next) (h : ∀ st ∈ l, SimS C P d fz cl st) : ∀ {ρ m c loc s}, Afr C env ρ m c loc s -> evSs P fz cl l env.scope loc K m c ->
  (∀ x ρ' m' c' s', K x m' c' -> Afr C env ρ' m' c' x.2 s' -> cW s s' -> wpAny (model C.prog C.w) A (execs rest env) Q E s') -> wpAny (model C.prog C.w) A (execs (l ++ rest) env) Q E s := by
 induction l with
 | nil => exact fun a e q => q _ _ _ _ _ e a ⟨rfl, rfl⟩
 | cons st l ih =>
  refine fun a e q => wpAny_execs_cons ((h st (.head _)).sim ⟨O, a, hA⟩ (aP7 hK ((bI3 fun st q => h st (.tail _ q)).bd hK)) e fun x fl ρ1 m1 c₁ s1 e n1 r1 => ?_)
  obtain ⟨f, lc⟩ := x
  cases f with
  | next =>
   cases (show fl = .next from r1)
   exact ih (fun st q => h st (.tail _ q)) n1.at_ e fun x ρ' m' c' s' e a al => q x ρ' m' c' s' e a ⟨al.1.trans n1.gens, al.2.trans n1.os⟩
  | _ => exact nomatch hn _ _ _ e
theorem bQ6 {k n : Nat} {K : Kt (Flw × Loc)} (e : lawT P cl k n loc K m c) : evSs (ext P) fzV cl ((bodyLaw.drop k).take n) scLaw loc K m c := by unfold lawT at e; exact e
theorem aT8 (S : StaF C (ext P) N) (hsc : env.scope = scLaw) (O : EnvOk env) (hA : aN3 280 A) {k n : Nat} {K : Kt (Flw × Loc)} {rest : List Stmt} (hcl : Snd C N d cl) (hd : d <= 280) (a : Afr C env ρ m c loc s) (e : lawT P cl k n loc K m c) (hK : Bd K) (hn : ∀ x m c, K x m c -> x.1 = .next)
  (q : ∀ x ρ' m' c' s', K x m' c' -> Afr C env ρ' m' c' x.2 s' -> cW s s' -> wpAny (model C.prog C.w) A (execs rest env) Q E s') : wpAny (model C.prog C.w) A (execs ((bodyLaw.drop k).take n ++ rest) env) Q E s :=
 cN6 O hA hK hn (bV9 S (hcl.mono hd) _) a (hsc.symm ▸ bQ6 e) q
theorem dQ : Snd C N 0 (fun _ _ _ _ _ _ => False) := fun _ _ _ _ _ _ _ e => e.elim
noncomputable def K1 (l : List PV) : Kt (Flw × Loc) := fun x m c => ∃ (i : Nat) (ns : List Int), x = (.next, [(V "script", .frz l), (V "numbers", .obj i)]) /\ aI0 [i] m [i] = some [.pl (ns.map .int)] /\ aQ8 [i] x.2 [V "numbers"] = some [(V "numbers", .obj 0)] /\ ns.length <= 26 /\ c <= 42
noncomputable def K4 : Kt (Flw × Loc) := fun y m c => ∃ r x loc', ∃ sp n0 t0, ∃ t1, y = (.next, aF2 r (enc t0) ((V "lw", lwV) :: loc')) /\ m = LB x /\ slk loc' /\ Bh [] sp n0 t0 t1 x /\ allI x.b.nums = true /\ c <= 133200
noncomputable def K3 (P : PI) : Kt (Flw × Loc) := fun x m c => x.1 = .next /\ c <= 1083 /\ lawT P (inl (ext P) HW (Glo P) 4) 17 3 x.2 K4 m c
noncomputable def dZ3 : List Int := [1, 3, 0, 0, 3, 9, 0, 0, 2, 0, 1, 8, 11, 1, 0, 1]
theorem dO5 (l : List Int) {G : Orc} : lawT P (inl (ext P) HG G 9) 0 2 [(V "script", .frz (l.map .int))] (K1 (l.map .int)) [] 0 := by
 rw [eH1, <- List.map_take]
 cases decide ((((l.take 26).map PV.int).length : Int) = 0) with
 | true => exact ⟨1, dZ3, rfl, rfl, rfl, by decide, by decide⟩
 | false => exact ⟨0, l.take 26, rfl, rfl, rfl, List.length_take_le .., by decide⟩
theorem cF7 {l : List Int} (h : l.length <= 26) : allI (l.map .int) = true := by
 have : bJ0 (l.map .int) = true := by
  clear h
  induction l with
  | nil => rfl
  | cons x l ih => exact ih
 unfold allI
 rw [this, zzZ]
 exact zzI (nT h (by decide))
theorem Bh.to {tp tp' : List Bool} {sp : List Spec} {n0 : Nat} {t0 t1 : T} {x : LD} (h : Bh tp sp n0 t0 t1 x) (ht : tp'.length <= 6) : Bh tp' sp n0 t0 t1 x := ⟨h.ok, h.okT, h.ab, h.kb, h.w, h.nl, h.dep, h.vk, h.n1, h.out, h.ne, h.rest, h.specs, h.spl, h.cnts, ht⟩
theorem dQ1 {nums : List PV} (hn : allI nums = true) (hc : c <= 183) : lawT P (Od (Gbu P)) 14 3 locG (K3 P) (GB (b0 nums)) c :=
 bO2 hn fun r t0 t1 b sp c' hp i1 hF a0 a1 hw hnn k0 k1 d0 d1 hb hev hv hs hc' => ⟨rfl, nT hc' (by lia), cE7 (tp := []) (r := r) hp i1 hF a0 a1 hw hnn k0 k1 d0 d1 hb hev hv hs (zzN _) fun x loc' c'' n0 hs hB hx hc'' =>
  ⟨r, x, loc', sp, n0, t0, t1, rfl, rfl, hs, hB, by rw [hx]; exact hb.nums, by lia⟩⟩
theorem cJ8 (x : LD) : (LB x).length = 40 := by kernel_rfl
theorem dF2 (f : PV) : setL (V "tape") (.obj 41) (bK1 f) = locV f [] := by kernel_rfl
theorem cD2 (S : StaF C (ext P) N) (O : EnvOk env) (hsc : env.scope = scLaw) (hA : aN3 280 A) {l : List Int} (a : Afr C env ρ [] 0 [(V "script", .frz (l.map .int))] s)
  (k : ∀ ρ' m' c' loc' s', Afr C env ρ' m' c' loc' s' -> cW s s' -> Q (.ret (.bool true)) s') : wpAny (model C.prog C.w) A (execs bodyLaw env) Q E s := by
 rw [bX4]
 have S9 : Snd C N 9 (inl (ext P) HG (fun _ _ _ _ _ _ => False) 9) := aR9 S dQ (n := 9)
 refine aT8 S hsc O hA S9 (by decide) a (dO5 l) (fun _ _ _ q => ex2 q fun i ns q => nT q.2.2.2.2 (by decide)) (fun _ _ _ q => ex2 q fun i ns q => congrArg Prod.fst q.1) fun x ρ1 m1 c₁ s1 q a₁ al1 => ex2 q fun i ns q => ?_
 obtain ⟨rfl, p1, p2, hns, hc1⟩ := q
 refine ex1 (bW0 a₁ p1 p2 rfl) fun ρ2 a2 => ?_
 refine aT8 S hsc O hA S9 (by decide) a2 (K := fun x m c => x = (.next, gLoc) /\ m = gMem (ns.map .int) /\ c <= 183) (by rw [w_gr]; exact ⟨rfl, rfl, zzS hc1 141⟩) (fun _ _ _ q => nT q.2.2 (by decide)) (fun _ _ _ q => congrArg Prod.fst q.1) fun x ρ3 m3 c3 s3 q a3 al3 => ?_
 obtain ⟨rfl, rfl, hc3⟩ := q
 refine ex1 (bW0 a3 (dM8 _) cZ4 (by decide)) fun ρ4 a4 => ?_
 refine aT8 S hsc O hA (aM8 S (dA6 S)) (by decide) a4 (dQ1 (cF7 hns) hc3) (fun _ _ _ q => nT q.2.1 (by decide)) (fun _ _ _ q => q.1) fun x ρ5 m5 c5 s5 q a5 al5 => ?_
 refine aT8 S hsc O hA (aR9 S (cY1 S) (n := 4)) (by decide) a5 q.2.2 (fun _ _ _ q => ex3 q fun r x loc' q => ex3 q fun sp n0 t0 q => ex1 q fun t1 q => nT q.2.2.2.2.2 (by decide)) (fun _ _ _ q => ex3 q fun r x loc' q => ex3 q fun sp n0 t0 q => ex1 q fun t1 q => congrArg Prod.fst q.1) fun x ρ6 m6 c6 s6 q a6 al6 => ?_
 refine ex3 q fun r x loc' q => ex3 q fun sp n0 t0 q => ex1 q fun t1 q => ?_
 obtain ⟨rfl, rfl, hs, hB, hI, hc6⟩ := q
 have pL : aQ8 selT (aF2 r (enc t0) ((V "lw", lwV) :: loc')) nmT = some (bK1 (enc t0)) := hs.elim (fun q => q ▸ cN0 r _) fun q => ex1 q fun u q => q ▸ dB7 r _ u
 refine ex1 (bW0 a6 (dT2 x) pL (by decide)) fun ρ7 a7 => ex1 (cP5 (aA hI fun h _ => h)) fun ns' hns' => ?_
 refine wpAny_execs_cons ?_
 rw [eC]
 have hl6 : (ns'.take 6).length <= 6 := List.length_take_le ..
 refine cB (P := ext P) (d := 280) (fz := fzV) (cl := fun _ _ _ _ _ _ => False) (l := ns'.take 6) (outs := (bK7 ns').map b2i) (c₁ := c6 + 6) S
  (aG8 (aG8 (aG8 (aJ9 S.toSta) (aG8 (aJ9 S.toSta) (aJ9 S.toSta))) aE3) aE3) (aY4 (aJ9 S.toSta) aV2 (aX1 aE3)) ⟨O, a7, hA⟩ (cE3 O hsc) cT6 (fun z hz => ?_) dZ6 tp_n (by decide +kernel) (hsc ▸ bM0) rfl
  (fun K m c e => by rw [hsc, eA9]; exact e) (fun K e => by rw [hsc, dN6, hns', List.drop_zero, <- List.map_take]; rw [cJ8] at e; exact e) (by unfold bigN; lia) (by lia) (by rw [zzZ, aW]) (fun j i y h1 h2 K m c e => ?_) fun ρ8 s8 n8 => ?_
 ·have := List.all_eq_true.mp cG0 z hz
  obtain ⟨z1, z2⟩ := z
  cases z2 <;> first | (cases this; done) | exact ⟨fun q => eq_of_beq this, (fun q => nomatch q), fun q => nomatch q⟩ | exact ⟨(fun q => nomatch q), (fun q => nomatch q), fun q => nomatch q⟩
 ·rw [hsc, dI2, bT4 (zzF (zzA.mp h1).1 hl6), <- cP2 h1 h2]; exact e
 ·have a8 := n8.at_
  rw [cJ8, dL2, List.map_map] at a8
  refine (cK1 S ((aR9 S (aK0 (dB8 S)) (n := 4)).mono (by decide)) _).sim (K := Kend) ⟨O, a8, hA⟩ (fun _ _ _ e => e.2) (hsc.symm ▸ bQ6 (dF2 (enc t0) ▸ dW0 (hB.to (tp' := bK7 ns') (aW ns' ▸ hl6)) (by lia))) fun x f ρ9 m9 c9 s9 e n9 r9 => ?_
  rw [e.1] at r9
  refine ex1 r9 fun v q => ?_
  obtain ⟨rfl, q⟩ := q
  cases (show v = .bool true from q)
  exact k _ _ _ _ _ n9.at_ ⟨n9.gens.trans (n8.gens.trans (al6.1.trans (al5.1.trans (al3.1.trans al1.1)))), n9.os.trans (n8.os.trans (al6.2.trans (al5.2.trans (al3.2.trans al1.2))))⟩
end
section
variable {α β : Type} {g : Prop}
noncomputable def gd (b : Bool) (o : Option α) : Option α := match b with | true => o | false => none
theorem gd_e {b : Bool} {o : Option α} {v : α} (e : gd b o = some v) (f : b = true -> o = some v -> g) : g := by cases b; exact nomatch e; exact f rfl e
theorem aB4 {o : Option α} {h : α -> Option β} {v : β} (e : o.bind h = some v) (f : ∀ a, o = some a -> h a = some v -> g) : g := by cases o; exact nomatch e; exact f _ rfl e
end
noncomputable def refO : Option (Option Value) -> Option Addr
 | some (some (.ref a)) => some a
 | _ => none
theorem bM1 {o : Option (Option Value)} {a : Addr} (e : refO o = some a) : o = some (some (.ref a)) := by
 cases o with
 | none => exact nomatch e
 | some o => cases o with
  | none => exact nomatch e
  | some v => cases v <;> first | (cases e; done) | (cases e; rfl)
noncomputable def fdOf (o : Obj) : Option FuncData := match o.data with
 | .func fd => some fd
 | _ => none
noncomputable def dF8 (o : Obj) : Option (Array Value × Nat) := match o.data with
 | .seq its n => some (its, n)
 | _ => none
noncomputable def cC6 (o : Obj) : Option (Array DictEntry × Nat) := match o.data with
 | .dict es n => some (es, n)
 | _ => none
noncomputable def cJ1 (a : Arguments) : Bool := a.posonlyargs.isEmpty && (a.vararg.isNone && (a.kwonlyargs.isEmpty && (a.kw_defaults.isEmpty && (a.kwarg.isNone && a.defaults.isEmpty))))
noncomputable def dD2 (sc : Scope) (x : Str) : Bool := sc.names.lookup x == some .local || sc.names.lookup x == some .cell
noncomputable def stOf (b : FuncBody) : Option (List Stmt) := match b with
 | .stmts l => some l
 | _ => none
noncomputable def dX9 (K : Frag) (fd : FuncData) : Bool := fd.defaults == .none && (fd.closure.isEmpty && (fd.globals == mainGlobals && (fd.builtins == builtinsNs && (codeIn K fd.code fd.qualname && (decide (fd.params.args.map (·.arg)).Nodup && ((fd.params.args.map (·.arg)).all (dD2 fd.scope) && (fd.scope.kind == .function && (!fd.scope.isCoroutine && !fd.scope.isGenerator))))))))
noncomputable def cJ4 (K : Frag) (a : Addr) : Option FnI := (K.lookup a).bind fun o => (fdOf o).bind fun fd => (stOf fd.body).bind fun b => gd (cJ1 fd.params && dX9 K fd) (some ⟨fd.params.args.map (·.arg), b, fd.scope⟩)
theorem cD7 {o : Obj} {q : Array Value × Nat} (e : dF8 o = some q) : o = ⟨o.cls, o.dict, .seq q.1 q.2, o.slots⟩ := by
 obtain ⟨a, b, d, c⟩ := o
 cases d <;> first | (cases e; done) | (cases e; rfl)
theorem bE8 {o : Obj} {q : Array DictEntry × Nat} (e : cC6 o = some q) : o = ⟨o.cls, o.dict, .dict q.1 q.2, o.slots⟩ := by
 obtain ⟨a, b, d, c⟩ := o
 cases d <;> first | (cases e; done) | (cases e; rfl)
noncomputable def dA4 (o : Obj) (c : String) : Bool := o.cls == .type c && (o.dict.isNone && o.slots.isEmpty)
theorem bF7 {o : Obj} {c : String} {d : Data} (h : dA4 o c = true) (e : o = ⟨o.cls, o.dict, d, o.slots⟩) : o = ⟨.type c, none, d, #[]⟩ :=
 aA h fun h1 h => aA h fun h2 h3 => by rw [e, <- eq_of_beq h1, <- Option.isNone_iff_eq_none.mp h2, <- Array.isEmpty_iff.mp h3]
theorem cU4 {o : Obj} {fd : FuncData} (e : fdOf o = some fd) : o = ⟨o.cls, o.dict, .func fd, o.slots⟩ := by
 obtain ⟨a, b, d, c⟩ := o
 cases d <;> first | (cases e; done) | (cases e; rfl)
theorem cN5 {b : FuncBody} {l : List Stmt} (e : stOf b = some l) : b = .stmts l := by
 cases b <;> first | (cases e; done) | (cases e; rfl)
theorem bQ {a : Arguments} (h : cJ1 a = true) : bB3 a (a.args.map (·.arg)) := by
 obtain ⟨p1, p2, p3, p4, p5, p6, p7⟩ := a
 refine aA h fun k1 hp => aA hp fun k2 hp => aA hp fun k3 hp => aA hp fun k4 hp => aA hp fun k5 k6 => ⟨p2, ?_, rfl⟩
 cases List.isEmpty_iff.mp k1; cases Option.isNone_iff_eq_none.mp k2; cases List.isEmpty_iff.mp k3; cases List.isEmpty_iff.mp k4; cases Option.isNone_iff_eq_none.mp k5; cases List.isEmpty_iff.mp k6; rfl
theorem bH9 {x : Str} {l : List (Str × NameKind)} : ∀ {n : Nat} {acc : List (Str × Addr)}, (l.lookup x = some .cell ∨ (acc.lookup x).isSome = true) -> ((cellsFrom n l acc).lookup x).isSome = true := by
 induction l with
 | nil => exact fun h => h.elim (fun h => nomatch h) id
 | cons y l ih =>
  intro n acc h
  obtain ⟨y, k⟩ := y
  unfold cellsFrom
  rw [zzQ] at h
  cases hk : k == NameKind.cell with
  | true =>
   refine ih (Classical.or_iff_not_imp_left.mpr fun hl => ?_)
   rw [zzQ]
   cases q : x == y with
   | true => rfl
   | false => rw [q] at h; exact h.elim (fun h => absurd h hl) id
  | false =>
   refine ih (h.imp (fun h => ?_) id)
   cases q : x == y with
   | true => rw [q] at h; cases h; exact nomatch hk
   | false => rw [q] at h; exact h
theorem bP8 {C : Cx} {a : Addr} {fi : FnI} (X : C.K.In C.h₀) (e : cJ4 C.K a = some fi) : FnF C a fi :=
 aB4 e fun o ho e => aB4 e fun fd hfd e => aB4 e fun b hb e => gd_e e fun q e => zzC e ▸
  aA q fun hp q => aA q fun h1 q => aA q fun h2 q => aA q fun h3 q => aA q fun h4 q => aA q fun h5 q => aA q fun h6 q => aA q fun h7 q => aA q fun h8 q => aA q fun h9 h10 =>
   ⟨⟨o.cls, o.dict, o.slots, fd, (X _ _ ho).trans (congrArg some (cU4 hfd)), cN5 hb, rfl, bQ hp, eq_of_beq h1, List.isEmpty_iff.mp h2, eq_of_beq h3, eq_of_beq h4, codeRec_of X h5⟩, of_decide_eq_true h6,
    fun x hx => (Bool.or_eq_true_iff.mp (List.all_eq_true.mp h7 x hx)).imp eq_of_beq fun q => ⟨eq_of_beq q, fun n => bH9 (.inl (eq_of_beq q))⟩, eq_of_beq h8, (Bool.not_eq_true' _).mp h9, (Bool.not_eq_true' _).mp h10⟩
noncomputable def hV : Value -> Nat
 | .str s _ => hs s
 | _ => 0
noncomputable def nsM (K : Frag) (x : Str) : Option (Option Value) := match ((K.lookup mainGlobals).bind cC6).bind fun q => q.1.toList.find? fun e => Nat.beq (hV e.key) (hs x) && e.key.isStr x with
 | some e => some (some e.val)
 | none => nsIn K mainGlobals x
theorem nsM_is {K : Frag} {x : Str} : nsIn K mainGlobals x = nsM K x := by
 unfold nsM
 have e : (fun e : DictEntry => Nat.beq (hV e.key) (hs x) && e.key.isStr x) = fun e => e.key.isStr x := funext fun e => by
  obtain ⟨_, k, _⟩ := e
  cases h : k.isStr x with
  | false => exact Bool.and_false _
  | true => cases k <;> first | (cases h; done) | (cases eq_of_beq h; exact (Bool.and_true _).trans (Nat.beq_refl _))
 rw [e]
 cases h : ((K.lookup mainGlobals).bind cC6).bind fun q => q.1.toList.find? fun e => e.key.isStr x with
 | none => rfl
 | some v =>
  refine aB4 h fun q hq h => aB4 hq fun o ho hq => ?_
  show _ = some (some v.val)
  unfold nsIn
  rw [ho, bE8 hq]
  show (match q.1.toList.find? _ with | some e => _ | none => _) = _
  rw [h]
noncomputable def aZ4 (K : Frag) (x : Str) : Option Addr := refO (nsM K x)
theorem aT9 {K : Frag} {x : Str} {a : Addr} (e : aZ4 K x = some a) : nsIn K mainGlobals x = some (some (.ref a)) := nsM_is.trans (bM1 e)
noncomputable def fnAt (K : Frag) (c f : Str) : Option Addr := (match c == V "" with
 | true => aZ4 K f
 | false => (aZ4 K c).bind fun A => refO (findIn K (.ref A) f)).bind fun a => gd (typeIn K (.ref a) == some (Value.type "function") && keepIn K (.ref a)) (some a)
theorem bZ5 {K : Frag} {c f : Str} {a : Addr} (e : fnAt K c f = some a) : typeIn K (.ref a) = some (.type "function") /\ keepIn K (.ref a) = true :=
 aB4 e fun b _ e => gd_e e fun q e => aA q fun q1 q2 => by cases e; exact ⟨eq_of_beq q1, q2⟩
theorem cF3 {K : Frag} {f : Str} {a : Addr} (e : fnAt K (V "") f = some a) : nsIn K mainGlobals f = some (some (.ref a)) :=
 aB4 e fun b h e => gd_e e fun q e => by cases e; exact aT9 h
theorem cA0 {K : Frag} {c f : Str} {a A : Addr} (hc : (!(c == V "")) = true) (hA : aZ4 K c = some A) (e : fnAt K c f = some a) : findIn K (.ref A) f = some (some (.ref a)) := by
 rw [Bool.not_eq_true'] at hc
 unfold fnAt at e
 rw [hc, hA] at e
 exact aB4 e fun b h e => gd_e e fun q e => by cases e; exact bM1 h
noncomputable def dX8 (K : Frag) (A : Addr) : Bool :=
 findIn K (.ref A) "__getattribute__" == some (some (.builtin "object.__getattribute__")) && (findIn K (.ref A) "__getattr__" == some none && (findIn K (.ref A) "__setattr__" == some (some (.builtin "object.__setattr__")) &&
  (hasDictIn K A && (plainOver K A && (makesIn K A && keepIn K (.ref A))))))
noncomputable def bK5 (K : Frag) (c : Str) : Option Addr := gd (!(c == V "")) ((aZ4 K c).bind fun A => gd (dX8 K A) (some A))
theorem bB0 {K : Frag} {c : Str} {A : Addr} {g : Prop} (e : bK5 K c = some A) (f : (!(c == V "")) = true -> aZ4 K c = some A -> ClsF K A -> keepIn K (.ref A) = true -> g) : g :=
 gd_e e fun hc e => aB4 e fun B hB e => gd_e e fun q e => by
  cases e
  exact aA q fun h1 q => aA q fun h2 q => aA q fun h3 q => aA q fun h4 q => aA q fun h5 q => aA q fun h6 h7 => f hc hB ⟨eq_of_beq h1, eq_of_beq h2, eq_of_beq h3, h4, h5, h6⟩ h7
noncomputable def mapO {α β : Type} (f : α -> Option β) : List α -> Option (List β)
 | [] => some []
 | a :: r => (f a).bind fun b => (mapO f r).bind fun bs => some (b :: bs)
noncomputable def aG2 (K : Frag) : Nat -> Value -> Option PV
 | _, .int i _ => some (.int i)
 | _, .str s _ => some (.str s)
 | n + 1, .ref a => (K.lookup a).bind fun o => (dF8 o).bind fun q => gd (dA4 o "tuple" && Nat.ble q.1.toList.length 1000) ((mapO (aG2 K n) q.1.toList).bind fun l => some (.tup l))
 | _, _ => none
noncomputable def eD0 : Value -> Bool
 | .ref _ => true
 | _ => false
noncomputable def aV (K : Frag) (x : Str) : Option MV := (nsM K x).bind fun o => o.bind fun u => match aG2 K 5 u with
 | some v => some (.p v)
 | none => gd (eD0 u) (some (.glob x))
noncomputable def bL8 (K : Frag) (c : Str) : Option Bool := (bK5 K c).bind fun A => match fnAt K c (V "__init__") with
 | some _ => some true
 | none => gd (findIn K (.ref A) (V "__init__") == some (some (.builtin "object.__init__"))) (some false)
noncomputable def aM7 (K : Frag) (c x : Str) : Bool := match bK5 K c with
 | some A => findIn K (.ref A) x == some none
 | none => false
noncomputable def entI (K : Frag) (e : DictEntry) : Option (Int × PV) := match e.key with
 | .int i _ => gd (e.hash == hashInt i) ((aG2 K 5 e.val).bind fun v => some (i, v))
 | _ => none
noncomputable def entP (e : Int × PV) : PV × MV := (.int e.1, .p e.2)
noncomputable def bR0 (K : Frag) (x : Str) : Option (List (PV × MV)) := (aZ4 K x).bind fun a => (K.lookup a).bind fun o => (cC6 o).bind fun q => (mapO (entI K) q.1.toList).bind fun l =>
 gd (!(a == sysModules) && (dA4 o "dict" && (decide (l.map (·.1)).Nodup && !l.isEmpty))) (some (l.map entP))
section
variable {C : Cx}
theorem bX0 {f : Value -> Option PV} (h : ∀ v x, f v = some x -> RepP C C.h₀ ρ0 x v) {vs : List Value} : ∀ {l : List PV}, mapO f vs = some l -> RepPs C C.h₀ ρ0 l vs /\ l.length = vs.length := by
 induction vs with
 | nil => exact fun e => by cases e; exact ⟨rfl, rfl⟩
 | cons v vs ih => exact fun e => aB4 e fun x hx e => aB4 e fun xs hxs e => by cases e; exact ⟨⟨v, vs, rfl, h _ _ hx, (ih hxs).1⟩, congrArg (· + 1) (ih hxs).2⟩
theorem cR9 (X : C.K.In C.h₀) {n : Nat} {a : Addr} {x : PV} (ih : ∀ (v : Value) (x : PV), aG2 C.K n v = some x -> RepP C C.h₀ ρ0 x v) (e : aG2 C.K (n + 1) (.ref a) = some x) : RepP C C.h₀ ρ0 x (.ref a) :=
 aB4 e fun o ho e => aB4 e fun q hq e => gd_e e fun hc e => aB4 e fun l hl e => aA hc fun h1 h2 => zzC e ▸
  have r := bX0 ih hl
  ⟨a, q.1.toList, q.2, rfl, (X _ _ ho).trans (congrArg some (bF7 h1 (cD7 hq))), List.not_mem_nil, r.2 ▸ nT (zzU h2) (by decide), r.1⟩
theorem bF9 {n : Nat} {v : Value} {x : PV} (e : aG2 C.K n v = some x) (h : ∀ a, v = .ref a -> RepP C C.h₀ ρ0 x v) : RepP C C.h₀ ρ0 x v := by
 cases v with
 | ref a => exact h a rfl
 | int i t => cases n <;> (cases e; exact ⟨_, rfl⟩)
 | str i t => cases n <;> (cases e; exact ⟨_, rfl⟩)
 | _ => cases n <;> exact nomatch e
theorem aR (X : C.K.In C.h₀) (n : Nat) : ∀ (v : Value) (x : PV), aG2 C.K n v = some x -> RepP C C.h₀ ρ0 x v := by
 induction n with
 | zero => exact fun v x e => bF9 e fun a q => by subst q; exact nomatch e
 | succ n ih => exact fun v x e => bF9 e fun a q => by subst q; exact cR9 X ih e
theorem bC8 (X : C.K.In C.h₀) {x : Str} {v : MV} (e : aV C.K x = some v) : ∃ u, nsIn C.K mainGlobals x = some (some u) /\ Rep C C.h₀ ρ0 v u := by
 refine aB4 e fun o ho e => aB4 e fun u hu e => ?_
 have ho := nsM_is.trans (ho.trans (congrArg some hu))
 refine ⟨u, ho, ?_⟩
 revert e
 cases q : aG2 C.K 5 u with
 | some w =>
  intro e
  cases e
  exact aR X _ _ _ q
 | none =>
  refine fun e => gd_e e fun r e => ?_
  cases e
  cases u <;> first | (cases r; done) | exact ⟨ho, _, rfl⟩
theorem dB4 (X : C.K.In C.h₀) {es : List DictEntry} : ∀ {l : List (Int × PV)}, mapO (entI C.K) es = some l ->
  ∃ kvs : List (PV × Value), PairK C C.h₀ ρ0 (l.map entP) kvs /\ Pairs (aC3 C 0) es kvs /\ kvs.map (·.1) = (l.map (·.1)).map .int /\ allK 0 (l.map entP) = true /\ ∀ e ∈ es, ∃ k, (aC3 C 0).is k e.key = true /\ e.hash = (aC3 C 0).hash k := by
 induction es with
 | nil => exact fun e => by cases e; exact ⟨[], rfl, .nil, rfl, rfl, fun _ h => nomatch h⟩
 | cons x es ih =>
   refine fun e => aB4 e fun p hp e => aB4 e fun ps hps e => ?_
   cases e
   refine ex1 (ih hps) fun kvs q => ?_
   obtain ⟨xh, xk, xv⟩ := x
   cases xk with
   | int i t =>
    refine gd_e hp fun hh hp => aB4 hp fun v hv hp => ?_
    cases hp
    have hi : (aC3 C 0).is (.int i) (.int i t) = true := by show (true && (i == i)) = true; rw [beq_self_eq_true]; rfl
    exact ⟨(.int i, xv) :: kvs, ⟨xv, kvs, rfl, aR X _ _ _ hv, q.1⟩, .cons hi rfl q.2.1, congrArg _ q.2.2.1, q.2.2.2.1, fun e he => (List.mem_cons.mp he).elim (fun z => z ▸ ⟨.int i, hi, eq_of_beq hh⟩) (q.2.2.2.2 e)⟩
   | _ => exact nomatch hp
theorem dR6 {r : List (Int × PV)} {n : Nat} {g : Prop} (h : (!r.isEmpty) = true) (z : allK n (r.map entP) = true) (z0 : allK 0 (r.map entP) = true) (k : n = 0 -> g) : g := by
 cases r with
 | nil => exact nomatch h
 | cons y r => cases n with
  | zero => exact k rfl
  | succ n => exact nomatch z
theorem bQ1 (X : C.K.In C.h₀) {x : Str} {l : List (PV × MV)} (e : bR0 C.K x = some l) : ∃ a, nsIn C.K mainGlobals x = some (some (.ref a)) /\ (a == sysModules) = false /\ DictOk C C.h₀ ρ0 a l :=
 aB4 e fun a ha e => aB4 e fun o ho e => aB4 e fun q hq e => aB4 e fun r hr e => gd_e e fun hc e => aA hc fun h0 hc => aA hc fun h1 hc => aA hc fun h4 h5 => zzC e ▸
  have ho := (X _ _ ho).trans (congrArg some (bF7 h1 (bE8 hq)))
  ex1 (dB4 X hr) fun kvs k => ⟨a, aT9 ha, (Bool.not_eq_true' _).mp h0, ⟨⟨_, ho, rfl, rfl, q.1, q.2, rfl⟩, fun n hn z => dR6 h5 z k.2.2.2.1 fun en => en ▸ ⟨kvs, ⟨_, q.1, q.2, ho, ⟨rfl, rfl, rfl⟩, rfl, fun e he => k.2.2.2.2 e (Array.mem_toList_iff.mpr he), k.2.1, k.2.2.1 ▸ List.pairwise_map.mpr ((of_decide_eq_true h4 : List.Pairwise _ _).imp fun ne e => ne (PV.int.inj e))⟩, k.1⟩,
   fun z => dR6 h5 z k.2.2.2.1 fun en => nomatch en⟩⟩
end
noncomputable def P0 : PI := ⟨fun _ => none, fun _ _ => none, fun _ => none, fun _ => none, fun _ _ => false⟩
noncomputable def fnsK (K : Frag) : Fns := ⟨fnAt K⟩
noncomputable def fnG (K : Frag) (c f : Str) : Option FnI := (fnAt K c f).bind (cJ4 K)
noncomputable def viaT {α : Type} (g : Str -> Option α) (f : Stmt -> Option α) (e : Nat × Nat) : Option α := onS (f (topS e.2)) none fun _ => g (nmS (topS e.2))
structure Fit (K : Frag) : Prop where
 sysm : (K.lookup sysModules).isSome = true
 blt : blts.all (fun t => nsIn K mainGlobals (V t) == some none && (bootBuiltins (V t) == some (bltV t) && !(V t == Str.ofString "__name__"))) = true
 glob : gT.map (viaT (aV K) valS) = gT.map fun e => valS (topS e.2)
 sd : gT.map (viaT (bR0 K) sdS) = gT.map fun e => sdS (topS e.2)
 cls : gT.map (viaT (bL8 K) clS) = gT.map fun e => clS (topS e.2)
 fn : gT.map (viaT (fnG K (V "")) fiS) = gT.map fun e => fiS (topS e.2)
 met : mT.map (fun e => fnG K (nmS (topS e.2.1)) (nmS (metS e.2))) = mT.map fun e => fiS (metS e.2)
 attr : aT.all (fun e => aM7 K (V e.2.1) (V e.2.2)) = true
section
variable {α β : Type}
theorem cH1 {f g : α -> β} {l : List α} (e : l.map f = l.map g) {a : α} (h : a ∈ l) : f a = g a := by
 induction l with
 | nil => exact nomatch h
 | cons b l ih => exact (List.mem_cons.mp h).elim (fun q => q ▸ (List.cons.inj e).1) (ih (List.cons.inj e).2)
theorem aP9 {k : Nat} {v : α} {l : List (Nat × α)} (e : bC3 k l = some v) : ∃ h, (h, v) ∈ l := by
 induction l with
 | nil => exact nomatch e
 | cons x l ih =>
  revert e
  show (match Nat.beq x.1 k with | true => some x.2 | false => bC3 k l) = some v -> _
  cases Nat.beq x.1 k with
  | true => exact fun e => ⟨x.1, zzC e ▸ .head _⟩
  | false => exact fun e => ex1 (ih e) fun h q => ⟨h, .tail _ q⟩
theorem bK8 {o : Option α} {n v : β} {f : α -> β} {g : Prop} (e : onS o n f = v) (h1 : n = v -> g) (h2 : ∀ a, o = some a -> f a = v -> g) : g := by cases o; exact h1 e; exact h2 _ rfl e
theorem aX9 {b : Bool} {x y v : β} {g : Prop} (e : cond b x y = v) (h1 : b = true -> x = v -> g) (h2 : y = v -> g) : g := by cases b; exact h2 e; exact h1 rfl e
theorem bO4 {f : Stmt -> Option α} {g : Str -> Option α} (h : gT.map (viaT g f) = gT.map fun e => f (topS e.2)) {x : Str} {v : α} (e : topD f x none = some v) : g x = some v :=
 bK8 e (fun e => nomatch e) fun i q e => aX9 e (fun q2 e => ex1 (aP9 q) fun k m => by
  have z : onS (f (topS i)) none (fun _ => g (nmS (topS i))) = f (topS i) := cH1 h m
  rw [e] at z
  rw [eq_of_beq q2]; exact z) fun e => nomatch e
theorem aZ5 {f : Stmt -> Option α} {g : Str -> Option α} (h : gT.map (viaT g f) = gT.map fun e => f (topS e.2)) {x : Str} {v : α} (e : topT f x none = some v) : g x = some v :=
 bK8 e (fun e => nomatch e) fun a q e => bO4 h (q.trans e)
end
section
variable {C : Cx}
theorem dJ0 (F : Fit C.K) {c f : Str} {fi : FnI} (e : fnT none c f = some fi) : fnG C.K c f = some fi :=
 aX9 e (fun _ e => aX9 e (fun q e => eq_of_beq q ▸ aZ5 F.fn e) fun e => nomatch e) fun e => bK8 e (fun e => nomatch e) fun i q e => aX9 e (fun q2 e => aA q2 fun h1 h2 => ex1 (aP9 q) fun k m => bK8 e (fun e => nomatch e) fun a z e => by
  rw [eq_of_beq h1, eq_of_beq h2]
  exact (cH1 F.met m : fnG C.K (nmS (topS i.1)) (nmS (metS i)) = fiS (metS i)).trans (z.trans e)) fun e => nomatch e
theorem bY (F : Fit C.K) {c x : Str} (e : dC0 false c x = true) : aM7 C.K c x = true :=
 bK8 e (fun e => nomatch e) fun i q e => aX9 e (fun q2 _ => aA q2 fun h1 h2 => ex1 (aP9 q) fun k m => by rw [eq_of_beq h1, eq_of_beq h2]; exact List.all_eq_true.mp F.attr _ m) fun e => nomatch e
theorem staF (kin : C.K.In C.h₀) (top : TopRead C.p C.loose C.mg C.mb C.h₀) (hc : C.clsA = bK5 C.K) (F : Fit C.K) : StaF C (ext P0) (fnsK C.K) where
 kin := kin
 top := top
 sysm := ex1 (Option.isSome_iff_exists.mp F.sysm) fun o e => ⟨o, kin _ _ e⟩
 glob x v e := bK8 (show dH0 none x = some v from e) (fun e => .inl (bC8 kin (aZ5 F.glob e))) fun a q e => by
  cases e
  unfold bltT at q
  refine ex1 (Option.map_eq_some_iff.mp q) fun t w => ?_
  obtain ⟨w, rfl⟩ := w
  have hx : x = V t := eq_of_beq (List.find?_some (p := fun s => x == V s) w)
  subst hx
  exact aA (List.all_eq_true.mp F.blt _ (List.mem_of_find?_eq_some w)) fun h1 h => aA h fun h2 h3 => .inr ⟨eq_of_beq h1, t, rfl, eq_of_beq h2, fun z => by rw [z, beq_self_eq_true] at h3; exact nomatch h3⟩
 sd x es e := bQ1 kin (aZ5 F.sd e)
 cls c A e := bB0 (hc ▸ e) fun _ _ h _ => h
 attr c A x e q := by
  have z := bY F q
  unfold aM7 at z
  rw [show bK5 C.K c = some A from hc ▸ e] at z
  exact eq_of_beq z
 fn c f fi e := aB4 (dJ0 F e) fun a ha e => ⟨a, ha, bP8 kin e⟩
 glo f a e := cF3 e
 met c f a A e q := bB0 (hc ▸ q) fun h1 h2 _ _ => cA0 h1 h2 e
 isf c f a e := bZ5 e
 clsG c b e := aB4 (bO4 F.cls e) fun A hA e => bB0 hA fun h1 h2 h3 h4 => ⟨A, hc ▸ hA, aT9 h2, h4, by
  revert e
  cases q : fnAt C.K c (V "__init__") with
  | some a => exact fun e => by cases e; exact ⟨a, q⟩
  | none => exact fun e => gd_e e fun r e => by cases e; exact eq_of_beq r⟩
end
noncomputable def qS : Program := view PySem.Challenge.pw_sa0273_01 [239]
noncomputable def aD7 : List Str := V "_wall" :: V "__name__" :: (((pw.main.body.drop 2).take 237).map nmS).filter fun x => !(x == V "__name__")
theorem cS0 : (defOf qS "law").isSome = true := by kernel_rfl
noncomputable def lawD : DefRec × List (PySem.Str × Expr) := (defOf qS "law").get cS0
theorem cT8 : defOf qS (OpenLaw.row PySem.Challenge.rw_sa0273_01).name = some (lawD.1, lawD.2) := by kernel_rfl
noncomputable abbrev xtS (s : Shared) : Bool := xlAt qS [] s && recOk (RowW.records (OpenLaw.row PySem.Challenge.rw_sa0273_01).toRowW) s
theorem dA9 : (ext P0).fn (V "") (V "law") = some ⟨[V "script"], bodyLaw, scLaw⟩ := by kernel_rfl
theorem cC8 : lawD.1.name = V "law" := by kernel_rfl
theorem cQ {R : WRecords} {x : WData} (h : WShape.has R x .int = true) : ∃ i, x = .int i := by
 cases x with
 | int i => exact ⟨i, rfl⟩
 | _ => exact nomatch h
theorem bL7 {R : WRecords} {xs : List WData} (h : WShape.hasItems R xs .int = true) : ∃ l : List Int, xs = l.map .int := by
 induction xs with
 | nil => exact ⟨[], rfl⟩
 | cons x xs ih =>
  rw [WShape.hasItems] at h
  exact aA h fun h1 h2 => ex1 (ih h2) fun l e => ex1 (cQ h1) fun i q => ⟨i :: l, by rw [q, e]; rfl⟩
theorem dY2 {R : WRecords} {xs : List WData} : WShape.has R (.list xs) (.list .int) = (WShape.hasItems R xs .int || false) := by kernel_rfl
theorem bY1 {R : WRecords} {x : WData} (h : WShape.has R x (.list .int) = true) : ∃ l : List Int, x = .list (l.map .int) := by
 cases x with
 | list xs => rw [dY2, Bool.or_false] at h; exact ex1 (bL7 h) fun l e => ⟨l, congrArg _ e⟩
 | _ => exact nomatch h
theorem bA5 {R : WRecords} {args : List WData} (h : WShape.hasAll R args [.list .int] = true) : ∃ l : List Int, args = [.list (l.map .int)] := by
 cases args with
 | nil => cases h
 | cons x r =>
  rw [WShape.hasAll] at h
  exact aA h fun h1 h2 => by
   cases r with
   | cons a b => rw [WShape.hasAll] at h2; cases h2
   | nil => exact ex1 (bY1 h1) fun l e => ⟨l, congrArg (fun y => [y]) e⟩
theorem bQ7 {C : Cx} {R : WRecords} {cl : Str -> Option Addr} {h : Heap} {ρ : Rho} {l : List Int} : ∀ {vs : List Value} {as : List Addr}, ReadsAllW R cl h vs (l.map .int) as -> RepPs C h ρ (l.map .int) vs := by
 induction l with
 | nil => intro vs as r; cases r; exact rfl
 | cons i l ih =>
  intro vs as r
  cases r with
  | cons r1 r2 => cases r1; exact ⟨_, _, rfl, ⟨_, rfl⟩, ih r2⟩
noncomputable def notO (o : Option WData) : Option WData := match o with
 | some (.bool b) => some (.bool !b)
 | _ => none
theorem cZ9 {e : WCtx} {a : WTm} {o : Option WData} (h : WTm.value [] a e = o) : WTm.value [] (.not a) e = notO o := by
 subst h; rfl
theorem bI8 {l : List Int} (h : (OpenLaw.row PySem.Challenge.rw_sa0273_01).toRowW.pre.holds [] { args := [.list (l.map .int)] } = true) : l.length <= 63 := by
 have e1 : WTm.value [] (.lt (.lit (.int 63)) (.len (.arg 0))) { args := [.list (l.map .int)] } = some (.bool (decide ((63 : Int) < ((l.map WData.int).length : Nat)))) := by
  show (less? (.int 63) (.int (((l.map WData.int).length : Nat) : Int))).map _ = _
  rw [less_int]; rfl
 have h2 := (holdsW_of_value (cZ9 e1)).symm.trans (holds_andW (a := .not (.lt (.lit (.int 63)) (.len (.arg 0)))) (b := .lit (.bool true)) h).1
 rw [Bool.not_eq_true', decide_eq_false_iff_not, zzZ] at h2
 lia
theorem J {K : Params -> Frag} (F : ∀ P, Fit (K P)) : WalkO qS aD7 (XL qS []) (fun w h => (K w.params).In h) (OpenLaw.row PySem.Challenge.rw_sa0273_01).toRowW lawD.1 lawD.2 fun f vs => PySem.call f vs := by
 intro w s₀ s1 mg mb G Y fa o pm cd doc dV kV ho hd hcd hD hmg hg args vals as hpre hlay hrd hwl hlo
 refine Ground.open G ?_
 intro T B D TE TW
 obtain ⟨hsh, hpr⟩ := pre_splitW hpre
 obtain ⟨l, rfl⟩ := bA5 hsh
 have hl := bI8 hpr
 let C : Cx := ⟨(OpenLaw.row PySem.Challenge.rw_sa0273_01).prog, w, K w.params, qS, looseW qS aD7, mg, mb, s1.heap, bK5 (K w.params)⟩
 have S : StaF C (ext P0) (fnsK C.K) := staF (C := C) Y (topRead_of T) rfl (F _)
 obtain ⟨fb, hfb, FF⟩ := S.fn _ _ _ dA9
 have hmg2 : mg (V "law") = some (.ref fb) := mg_of S.kin S.top.g (S.glo _ _ hfb)
 rw [cC8] at hmg
 cases hmg.symm.trans hmg2
 obtain ⟨v, rfl, hv⟩ : ∃ v, vals = [v] /\ Rep C s1.heap ρ0 (.frz (l.map .int)) v := by
  cases hrd with
  | cons r1 r2 =>
   cases r2
   cases r1 with
   | list h1 h2 h3 h4 =>
    rename_i a oo vs n as'
    exact ⟨_, rfl, a, vs.toList, rfl, ⟨oo, h1, h2, n, by rw [h3]⟩, List.not_mem_nil, by rw [zzZ]; exact nT hl (by decide), bQ7 h4⟩
 have H : Sh C ρ0 [] 0 s1.heap := ⟨rfl, List.nodup_nil, fun _ q => (nomatch q), fun _ q => (nomatch q), fun _ _ e => e, fun i a o e => nomatch e⟩
 have r0 : Reps C s1.heap ρ0 [.frz (l.map .int)] [v] := ⟨v, [], rfl, hv, rfl⟩
 refine wpAny_call (bH0 S.toSta FF H r0 rfl (by decide) fun env s2 E' O hsc a1 hk fr g dd os => ?_)
 refine cD2 S O hsc ⟨rfl, by rw [depth_deeper]; decide, by rw [units_deeper]; decide⟩ a1 fun ρ' m' c' loc' s' a' al => ?_
 show GoodWG _ _ _ _ _ _ _
 refine ⟨.inl ⟨.bool true, .bool true, [], rfl, fun _ => rfl, .bool true, ?_, fun _ => ⟨List.nodup_nil, fun a h => by cases h⟩⟩, .of_keep fun b o e => a'.sh.keep0 b o e, al.2.trans os, .of_eq (al.1.trans (g.trans hg))⟩
 kernel_rfl
end
section
open PySem PySem.W PyProof.Rows PyProof.V
noncomputable def enT (P : Params) (x : Str) (t : Nat) (v : Value) : DictEntry := { hash := PyData.keyHash P x, key := .str x t, val := v }
noncomputable def oTup (l : List Value) : Obj := { cls := .type "tuple", data := .seq l.toArray }
noncomputable def oFld (l : List Value) : Obj := { cls := .none, data := .fields l.toArray }
noncomputable def oFlC (c : String) (l : List Value) : Obj := { cls := .type c, data := .fields l.toArray }
noncomputable def oDic (l : List DictEntry) (n : Nat) : Obj := { cls := .type "dict", data := .dict l.toArray n }
noncomputable def oInt (l : List (Int × Nat × Value)) : Obj := oDic (l.map fun e => { hash := e.1, key := .int e.1 e.2.1, val := e.2.2 }) l.length
noncomputable def bV4 : Nat -> List Str -> List Value
 | _, [] => []
 | k, x :: r => .str x k :: bV4 (k + 1) r
noncomputable def cX3 : Str := V "/claim/cut.py"
noncomputable def oCod (x q : Str) (k line argc fl : Nat) (n : Nat) (b : Bool) (more : List Value) (t : Nat) : Obj := oFlC "code" ([.str x k, .str q (k + 1), .str cX3 (k + 2), .int line 0, .int argc 0, .int 0 0, .int 0 0, .int fl 0, .ref n, .bool b, .int 181 0, .ref (n + 1), .none] ++ more ++ [.int t 0, .int line 0, .str cX3 (t + 1)])
noncomputable def dW5 (sc : Scope) : List Str := (sc.names.filter fun z => z.2 == .local).map (·.1)
noncomputable def rawF (x q : Str) (a : Arguments) (b : List Stmt) (sc : Scope) : FuncData := { name := x, qualname := q, params := a, body := .stmts b, scope := sc, globals := 0, closure := [], defaults := .none, kwdefaults := .none }
structure TG where
 objs : List Obj
 ents : List DictEntry
 lines : List Value
 n : Nat
 k : Nat
noncomputable def genF (P : Params) (M : Value) (q x : Str) (a : Arguments) (b : List Stmt) (sc : Scope) (p : Pos) (n k : Nat) : TG :=
 match sc.more with
 | [] => let ls := dW5 sc
  ⟨[oTup [], oFld [], oTup (bV4 (k + 3) ls), oTup [], { cls := .none, data := .func (rawF x q a b sc) }, oCod x q k p.line a.args.length 3 n true [.ref (n + 2), .ref (n + 3), .ref (n + 4)] (k + 3 + ls.length), { cls := .type "function", data := .func { rawF x q a b sc with globals := 3, pyModule := M, code := .ref (n + 5) } }],
   [enT P x (k + 5 + ls.length) (.ref (n + 6))], [.int p.line 0, .int p.col 0, .ref (n + 5)], n + 7, k + 6 + ls.length⟩
 | _ => ⟨[oTup [], oFld [], { cls := .none, data := .func (rawF x q a b sc) }, oCod x q k p.line a.args.length 3 n true [.none, .none, .ref (n + 2)] (k + 3), { cls := .type "function", data := .func { rawF x q a b sc with globals := 3, pyModule := M, code := .ref (n + 3) } }],
   [enT P x (k + 5) (.ref (n + 4))], [.int p.line 0, .int p.col 0, .ref (n + 3)], n + 5, k + 6⟩
noncomputable def genB (P : Params) (M : Value) (pre : Str) : List Stmt -> Nat -> Nat -> TG
 | .FunctionDef x a b _ _ _ sc _ _ p :: r, n, k => match genF P M (pre ++ x) x a b sc p n k with
  | ⟨o, e, l, n, k⟩ => match genB P M pre r n k with
   | ⟨o', e', l', n, k⟩ => ⟨o ++ o', e ++ e', l ++ l', n, k⟩
 | _ :: r, n, k => genB P M pre r n k
 | [], n, k => ⟨[], [], [], n, k⟩
noncomputable def excT : List Value := [.type "Exception", .type "BaseException", .type "object"]
noncomputable def mroB (bs : List Expr) : List Value := match bs with
 | [.Name x _] => cond (x == V "Exception") excT (cond (x == V "RuneError") (.ref 38 :: excT) [.ref 536, .type "object"])
 | _ => [.type "object"]
noncomputable def dU (x : Str) : List Value := cond (x == V "RuneError") [.ref 51, .ref 63] (cond (x == V "LowStmt") ([896, 915, 934, 953, 979, 998, 1017, 1078, 1097, 1123].map .ref) [])
noncomputable def cS4 (x : String) (k c : Nat) (a : String) (b : Value) : Obj := oFlC "getset_descriptor" [.str (V x) k, .ref c, .builtin a, b]
noncomputable def eG1 (P : Params) (M : Value) (x : Str) (bs : List Expr) (b : List Stmt) (st : List Str) (p : Pos) (n k : Nat) : TG :=
 let mro := mroB bs
 let own := bs.isEmpty
 let exc := mro.length == 3
 let e1 := enT P (V "__module__") (k + 7) M
 let e3 := enT P (V "__firstlineno__") (k + 11) (.int p.line (k + 10))
 let B := genB P M (x ++ V ".") b (n + 7) (k + 12)
 let s := B.n
 let sk := B.k + st.length
 let e4 := enT P (V "__static_attributes__") sk (.ref s)
 let c := s + 2
 let d := cond own [enT P (V "__dict__") (sk + 2) (.ref (s + 3)), enT P (V "__weakref__") (sk + 4) (.ref (s + 4))] (cond exc [enT P (V "__weakref__") (sk + 2) (.ref (s + 3))] [])
 let dk := sk + 1 + 2 * d.length
 let gs := cond own [cS4 "__dict__" (sk + 1) c "function.__dict__" (.builtin "function.__dict__#set"), cS4 "__weakref__" (sk + 3) c "ExceptionGroup.__weakref__" .none] (cond exc [cS4 "__weakref__" (sk + 1) c "ExceptionGroup.__weakref__" .none] [])
 let ek := dk + 2 + cond exc 2 0
 let cd : ClassData := { name := x, bases := [mro.headD .none], mro := .ref c :: mro, ns := s + 1, qualname := x, subclasses := dU x }
 ⟨(oTup (cond own [] [mro.headD .none]) :: oFlC "builtin_function_or_method" [.builtin "type.__prepare__", .type "type"] :: oDic (e1 :: enT P (V "__qualname__") (k + 9) (.str x (k + 8)) :: e3 :: (B.ents ++ [e4])) (B.ents.length + 4) :: oTup [] :: oFld B.lines ::
   oCod x x (k + 2) p.line 0 0 (n + 3) false [.none, .none, .none] (k + 5) :: { cls := .type "frame", slots := #[some (.ref (n + 5)), some (.ref 3), some (.ref (n + 2)), none, some M, none, some (.ref 0)] } :: B.objs) ++
   oTup (bV4 B.k st) :: oDic (e1 :: e3 :: (B.ents ++ (e4 :: (d ++ [enT P (V "__doc__") dk .none])))) (d.length + 2) ::
   {cls := .type "type", data := .cls cd, slots := #[cond own none (some (.ref n)), none, some (.str x k), some (.str x (k + 8)), some (.builtin (cond (mro.length == 3 || mro.length == 4) "Exception.__new__" "object.__new__")), some (.bool true)] } ::
   (gs ++ [oFlC "super" [.ref c, .ref c, .ref c], oFlC "builtin_function_or_method" [.builtin "object.__init_subclass__", .ref c]]),
  [enT P x ek (.ref c)], [.int p.line 0, .int p.col 0, .ref (n + 5)], s + 5 + gs.length, ek + 1⟩
noncomputable def kidT : List (Int × Nat × Value) := [(23, 837, .ref 393), (25, 839, .ref 395), (26, 841, .ref 397), (27, 843, .ref 400), (28, 845, .ref 402), (30, 847, .ref 404), (31, 849, .ref 407), (33, 853, .ref 409), (34, 855, .ref 412), (35, 857, .ref 414), (36, 859, .ref 416)]
noncomputable def spcT : List (Str × List Obj × Nat) := [
 (V "PRIM_TID", [oInt [(0, 261, .int 20 319), (1, 263, .int 9 320), (2, 265, .int 10 321), (3, 267, .int 11 322), (4, 269, .int 12 323), (5, 271, .int 13 324), (6, 273, .int 14 325), (7, 275, .int 15 326), (8, 277, .int 16 327), (9, 279, .int 17 328), (10, 281, .int 18 329), (11, 283, .int 19 330), (12, 285, .int 1 331), (13, 287, .int 4 332)]], 347),
 (V "TID_PRIM", [oInt [(20, 348, .int 0 261), (9, 349, .int 1 263), (10, 350, .int 2 265), (11, 351, .int 3 267), (12, 352, .int 4 269), (13, 353, .int 5 271), (14, 354, .int 6 273), (15, 355, .int 7 275), (16, 356, .int 8 277), (17, 357, .int 9 279), (18, 358, .int 10 281), (19, 359, .int 11 283), (1, 360, .int 12 285), (4, 361, .int 13 287)]], 376),
 (V "KID_PLACES", oInt ([(4, 799, .ref 348), (6, 803, .ref 351), (7, 805, .ref 353), (8, 807, .ref 356), (9, 809, .ref 358), (10, 811, .ref 360), (11, 813, .ref 362), (13, 817, .ref 364), (14, 819, .ref 367), (15, 821, .ref 370), (16, 823, .ref 373), (17, 825, .ref 377), (18, 827, .ref 380), (19, 829, .ref 382), (20, 831, .ref 384), (21, 833, .ref 386), (22, 835, .ref 389)] ++ kidT) ::
  (([[.int 2 915, .int 1 909], [.ref 347], [.int 2 917, .int 1 909], [.int 3 918, .int 1 909], [.ref 349, .ref 350], [.int 2 920, .int 1 909], [.ref 352], [.int 2 922, .int 2 911], [.int 4 923, .int 3 913], [.ref 354, .ref 355], [.int 3 925, .int 3 913], [.ref 357], [.int 2 927, .int 1 909], [.ref 359], [.int 2 929, .int 3 913], [.ref 361], [.int 3 931, .int 1 909], [.ref 363], [.int 3 933, .int 1 909], [.int 4 934, .int 1 909], [.ref 365, .ref 366], [.int 2 936, .int 1 909], [.int 3 937, .int 1 909], [.ref 368, .ref 369], [.int 2 939, .int 1 909], [.int 3 940, .int 1 909], [.ref 371, .ref 372], [.int 2 942, .int 1 909], [.int 3 943, .int 1 909], [.int 4 944, .int 1 909], [.ref 374, .ref 375, .ref 376], [.int 2 946, .int 1 909], [.int 3 947, .int 1 909], [.ref 378, .ref 379], [.int 2 949, .int 1 909], [.ref 381], [.int 2 951, .int 1 909], [.ref 383], [.int 2 953, .int 1 909], [.ref 385], [.int 2 955, .int 1 909], [.int 3 956, .int 1 909], [.ref 387, .ref 388]] : List (List Value)).map oTup ++
   oInt kidT :: ([[.int 2 958, .int 1 909], [.int 3 959, .int 1 909], [.ref 391, .ref 392], [.int 2 960, .int 2 911], [.ref 394], [.int 2 961, .int 3 913], [.ref 396], [.int 3 962, .int 1 909], [.int 4 963, .int 1 909], [.ref 398, .ref 399], [.int 3 964, .int 1 909], [.ref 401], [.int 2 965, .int 1 909], [.ref 403], [.int 2 966, .int 3 913], [.int 3 967, .int 1 909], [.ref 405, .ref 406], [.int 2 968, .int 1 909], [.ref 408], [.int 2 969, .int 2 911], [.int 5 970, .int 3 913], [.ref 410, .ref 411], [.int 3 971, .int 3 913], [.ref 413], [.int 2 972, .int 2 911], [.ref 415]] : List (List Value)).map oTup), 984),
 (V "_law_DISPOSE", [oTup [.int 8 2036, .int 9 2037, .int 10 2038, .int 11 2039]], 2040)]
noncomputable def genS (P : Params) (M : Value) (n k : Nat) : Stmt -> TG × Value
 | .FunctionDef x a b _ _ _ sc _ _ p => (genF P M x x a b sc p n k, M)
 | .ClassDef x bs _ b _ _ _ _ _ st p => (eG1 P M x bs b st p n k, M)
 | .Assign [.Name x _] (.Constant (.int v) _ _) _ => (⟨[], [enT P x (k + 1) (.int v k)], [], n, k + 2⟩, M)
 | .Assign [.Name x _] (.Constant (.str v) _ _) _ => (⟨[], [], [], n, k + 2⟩, .str v k)
 | .Assign [.Name x _] _ _ => match spcT.lookup x with
  | some (os, k) => (⟨os, [enT P x k (.ref n)], [], n + os.length, k + 1⟩, M)
  | none => (⟨[], [], [], n, k⟩, M)
 | _ => (⟨[], [], [], n, k⟩, M)
noncomputable def objT (P : Params) (i : Nat) : List Stmt -> Nat -> Nat -> Value -> Obj
 | [], _, _, _ => default
 | st :: r, n, k, M => match genS P M n k st with
  | (g, M') => cond (Nat.blt i g.n) (g.objs.getD (i - n) default) (objT P i r g.n g.k M')
noncomputable def dQ3 (P : Params) : Nat -> List Stmt -> Nat -> Nat -> Value -> List Stmt × Nat × Nat × Value
 | d + 1, st :: r, n, k, M => match genS P M n k st with
  | (g, M') => dQ3 P d r g.n g.k M'
 | _, l, n, k, M => (l, n, k, M)
noncomputable def objB (P : Params) (i : Nat) : Nat -> List Stmt -> Nat -> Nat -> Value -> Obj
 | 0, l, n, k, M => objT P i l n k M
 | c + 1, l, n, k, M => match dQ3 P 16 l n k M with
  | (l', n', k', M') => cond (Nat.blt i n') (objT P i l n k M) (objB P i c l' n' k' M')
noncomputable def dO9 (P : Params) : List Stmt -> Nat -> Nat -> Value -> List DictEntry
 | [], _, _, _ => []
 | st :: r, n, k, M => match genS P M n k st with
  | (g, M') => g.ents ++ dO9 P r g.n g.k M'
noncomputable def cI6 (P : Params) : List Stmt -> Nat -> Nat -> Value -> List Value
 | [], _, _, _ => []
 | st :: r, n, k, M => match genS P M n k st with
  | (g, M') => g.lines ++ cI6 P r g.n g.k M'
noncomputable def modT (P : Params) : List Stmt -> Nat -> Nat -> Value -> Value
 | [], _, _, M => M
 | st :: r, n, k, M => match genS P M n k st with
  | (g, M') => modT P r g.n g.k M'
noncomputable def M0 : Value := .str (V "__main__") 164
noncomputable abbrev bT : List Stmt := behindTheImports pw
noncomputable def mkT (f : Nat -> Obj) (n : Nat) : Nat -> Nat -> Nat -> BT
 | 0, _, _ => .nil
 | d + 1, i, st => cond (Nat.blt i n) (.node (f i) (mkT f n d (i + st) (2 * st)) (mkT f n d (i + 2 * st) (2 * st))) .nil
noncomputable def o11 : Obj := oTup []
noncomputable def o13 : Obj := oCod (V "<module>") (V "<module>") 182 1 0 0 11 false [.none, .none, .none] 185
noncomputable def o14 : Obj := { cls := .type "frame", slots := #[some (.ref 13), some (.ref 3), some (.ref 3), none, some (.str (V "__main__") 164), none, some (.ref 0)] }
noncomputable def o02 (P : Params) : Obj := { cls := .none, data := .dict #[enT P (V "type.__subclasses__.Exception.0") 223 (.int 38 0), enT P (V "type.__subclasses__.Exception.n") 224 (.int 1 0)] 2 }
noncomputable def o03 (P : Params) (s ne : Nat) : Obj := oDic ([enT P (V "__name__") 165 (modT P (bT.take s) 15 187 M0), enT P (V "__doc__") 166 .none, enT P (V "__package__") 167 .none, enT P (V "__loader__") 168 (.builtin "__main__.__loader__#opaque"), enT P (V "__spec__") 169 .none, enT P (V "__annotations__") 170 (.ref 6), enT P (V "__builtins__") 171 (.ref 4), enT P (V "__file__") 173 (.str cX3 172), enT P (V "__cached__") 174 .none] ++ dO9 P (bT.take s) 15 187 M0) ne
noncomputable def o12 (P : Params) (s : Nat) : Obj := oFld (cI6 P (bT.take s) 15 187 M0)
noncomputable def cO2 (P : Params) (i : Nat) : Obj := cond (Nat.blt i 15) ([boot_o_0 P, boot_o_1 P, boot_o_2 P, boot_o_3 P, boot_o_4 P, boot_o_5 P, boot_o_6 P, boot_o_7 P, boot_o_8 P, boot_o_9 P, boot_o_10 P, o11, oFld [], o13, o14].getD i default) (objB P i 14 bT 15 187 M0)
noncomputable def dZ0 (o : Obj) : Obj := match o.data with
 | .cls c => { o with data := .cls { c with subclasses := [] } }
 | _ => o
@[irreducible] noncomputable def stT (s n ne : Nat) (P : Params) : BT := cond (Nat.beq s 0) (mkT (cO2 P) 15 11 0 1) ((((cond (Nat.ble s 186) ((mkT (cO2 P) n 11 0 1).set 536 dZ0) (mkT (cO2 P) n 11 0 1)).set 2 fun _ => o02 P).set 3 fun _ => o03 P s ne).set 12 fun _ => o12 P s)
noncomputable def envT : Env := { scope := pw.main.scope, locals := mainNs, globals := mainNs, cells := [], code := Value.ref 13, frame := some 14 }
noncomputable abbrev shT (t : BT) (n k : Nat) (os : OsState) : SharedT := { tree := t, n := n, life := {}, gens := { toList := [] }, drawn := {}, toks := k, os := os }
noncomputable abbrev p00 : Pos := ⟨0, 0, 0, 0⟩
noncomputable def runS (env : Env) (p : Program) (b b' : List Stmt) (pos : Pos) (N : Nat) (w : World) (os : OsState) (t : BT) (n k : Nat) : Option (Flow × SharedT × Code × Pos) :=
 segRunT treeTable p w 11 (some (Value.ref 6)) 1 N (shT t n k os) (piecesOf b env (Code.body b' env) pos [topFrame p00])
theorem runS_is : runS = runS := rfl
name_quick runR for Mine.runS by Mine.runS_is
noncomputable abbrev RunT := Env -> Program -> List Stmt -> List Stmt -> Pos -> Nat -> World -> OsState -> BT -> Nat -> Nat -> Option (Flow × SharedT × Code × Pos)
noncomputable def segT (r : RunT) (s d : Nat) (q q' : Pos) (n k ne n' k' ne' : Nat) (w : World) : Prop := ∀ os : OsState, r envT pw ((bT.drop s).take d) bT q 6000 w os (stT s n ne w.params) n k = some (.next, shT (stT (s + d) n' ne' w.params) n' k' os, .body bT envT, q')
noncomputable abbrev row1 : String := "special-get-raises"
noncomputable abbrev runQ : RunT := PySem.W.Fast.runR
theorem aL8 {s d : Nat} {q q' : Pos} {n k ne n' k' ne' : Nat} (h : ∀ w, segT runQ s d q q' n k ne n' k' ne' w) (w : World) : segT runS s d q q' n k ne n' k' ne' w := PySem.W.Fast.runR_eq.symm ▸ h w
theorem seg0 : ∀ w, segT runS 0 35 ⟨0, 0, 0, 0⟩ ⟨43, 0, 43, 13⟩ 15 187 0 66 319 42 w := aL8 fun w os => by kernel_rfl
theorem eD7 : ∀ w, segT runS 35 2 ⟨43, 0, 43, 13⟩ ⟨45, 0, 45, 8⟩ 66 319 42 68 377 44 w := aL8 (byRow2 row1 (fun w os => by kernel_rfl) fun w os => by kernel_rfl)
theorem dW8 : ∀ w, segT runS 37 96 ⟨45, 0, 45, 8⟩ ⟨351, 0, 351, 6⟩ 68 377 44 346 915 136 w := aL8 fun w os => by kernel_rfl
theorem dH3 : ∀ w, segT runS 133 1 ⟨351, 0, 351, 6⟩ ⟨352, 0, 352, 10⟩ 346 915 136 417 985 137 w := aL8 (byRow2 row1 (fun w os => by kernel_rfl) fun w os => by kernel_rfl)
theorem dS4 : ∀ w, segT runS 134 26 ⟨352, 0, 352, 10⟩ ⟨543, 0, 543, 8⟩ 417 985 137 707 1420 161 w := aL8 fun w os => by kernel_rfl
theorem dT0 : ∀ w, segT runS 160 26 ⟨543, 0, 543, 8⟩ ⟨685, 0, 689, 91⟩ 707 1420 161 880 1660 186 w := aL8 fun w os => by kernel_rfl
theorem dF : ∀ w, segT runS 186 19 ⟨685, 0, 689, 91⟩ ⟨879, 0, 885, 38⟩ 880 1660 186 1133 2032 205 w := aL8 fun w os => by kernel_rfl
theorem dL3 : ∀ w, segT runS 205 35 ⟨879, 0, 885, 38⟩ ⟨1276, 0, 1305, 54⟩ 1133 2032 205 1356 2381 239 w := aL8 fun w os => by kernel_rfl
section
noncomputable abbrev dR9 (P : Params) : BT := stT 240 1356 239 P
noncomputable abbrev finH (P : Params) : Heap := absHeap (dR9 P) 1356 {}
noncomputable abbrev finS (w : World) (os : OsState) : Shared := ⟨finH w.params, { toList := [] }, { }, 2381, os⟩
variable (w : World) (os : OsState)
theorem cM9 : ((boot_heap w.params).isNs mainGlobals && (Array.mk ([] : List GenState)).size == 0, (boot_heap w.params).objs.size, (boot_heap w.params).nsMap mainGlobals "__annotations__") = (true, 11, some (Value.ref 6)) := by kernel_rfl
theorem dM5 : seen ((recsOf qS).map (·.name)) (ownsOf qS) [] { finS w os with gens := #[] } = expectedOf qS := by kernel_rfl
theorem dX5 : (finH w.params).bltView = bltViewBooted := by kernel_rfl
theorem dN9 : pinSeenD qS (drecsOf qS) (finS w os) = pinGoodD (drecsOf qS) := by kernel_rfl
theorem eH8 : plainSeenE qS (looseW qS aD7) (finS w os) = plainGoodE qS (looseW qS aD7) := by kernel_rfl
theorem eD4 : plainSeenD qS aD7 (finS w os) = plainGoodD qS aD7 := by kernel_rfl
theorem dY8 : clsSeenW qS aD7 (finS w os) = clsGoodW qS aD7 := by kernel_rfl
theorem eA6 : (finH w.params).accountedOkI (importedModules pw.main.body) = true := by kernel_rfl
theorem eG9 : (finH w.params).isNs mainGlobals = true := by kernel_rfl
theorem eA8 : (finH w.params).isNs builtinsNs = true := by kernel_rfl
theorem bY4 : tablesOk qS (finH w.params) = true := by kernel_rfl
theorem l_xt : xtS (finS w os) = true := by kernel_rfl
theorem dU7 : laidKept (boot_heap w.params) (finH w.params) = true := by kernel_rfl
theorem dN8 : gensDone (finS w os) = true := by kernel_rfl
theorem dQ6 : staticsOk (importedModules pw.main.body) (boot_heap w.params) (finH w.params) = true := by kernel_rfl
noncomputable def wL (p q : Program) (lo : List Str) (s : Shared) := (s.heap.keysOk (looseW q lo) ((recsOf q).map (·.name)) ((litsOf q).map (·.1)) ((clssOf q (looseW q lo)).map (·.name)), s.heap.isNs mainGlobals && (s.heap.nsKeys mainGlobals).all fun k => startupNames.contains k || p.boundNames.contains k, tabsOk q s, wideSeen q s, wideGood q)
theorem wL_is : wL = wL := rfl
name_quick vL for Mine.wL by Mine.wL_is
theorem eF5 {p q : Program} {lo : List Str} {s : Shared} : PySem.W.Fast.vL p q lo s = (s.heap.keysOk (looseW q lo) ((recsOf q).map (·.name)) ((litsOf q).map (·.1)) ((clssOf q (looseW q lo)).map (·.name)), namesBound p s.heap, tabsOk q s, wideSeen q s, wideGood q) := by rw [<- PySem.W.Fast.vL_eq]; rfl
noncomputable abbrev vF (w : World) (os : OsState) := PySem.W.Fast.vL pw qS aD7 (finS w os)
theorem k1 : (vF w os).1 = true := by kernel_rfl
theorem k2 : (vF w os).2.1 = true := by kernel_rfl
theorem k3 : (vF w os).2.2.1 = true := by kernel_rfl
theorem k4 : (vF w os).2.2.2.1 = (vF w os).2.2.2.2 := by kernel_rfl
end
section
noncomputable abbrev RR := PySem.Challenge.rw_sa0273_01
noncomputable abbrev RP : Program := RR.row.prog
open TablesWhole in
noncomputable def wA (p : Program) (l : OpenLaw) (k : Nat) : Bool := [wModule ⟨fun sc n _ => (sc.names.lookup n).isSome, fun _ _ _ ok => ok, fun _ => true, true, false, fun a b => a && b⟩ p.main, namesResolve p, ((["vars", "dir", "locals"] : List Str).filter (readsOut p p.main.body)).isEmpty, noRoadLSs { strict := false, foot := none, bare := [] } p.main.body, namesMeet p p.main.body fun _ n => attrL n, noRoadLSs { strict := true, foot := some l.bound', writes := l.writes, may := l.may } l.footing, l.bound'.all fun n => !builtinNamed n || l.about == [n] || !l.reads n, namesMeet l.prog l.above fun _ n => !l.own.contains n].getD k false
theorem wA_is : wA = wA := rfl
name_quick vA for Mine.wA by Mine.wA_is
theorem aX6 (k : Nat) (h : PySem.W.Fast.vA RP RR k = true) : wA RP RR k = true := PySem.W.Fast.vA_eq ▸ h
theorem v0 : wA RP RR 0 = true := aX6 0 (by kernel_rfl)
theorem v1 : wA RP RR 1 = true := aX6 1 (by kernel_rfl)
theorem v2 : wA RP RR 2 = true := aX6 2 (by kernel_rfl)
theorem v3 : wA RP RR 3 = true := aX6 3 (by kernel_rfl)
theorem v4 : wA RP RR 4 = true := aX6 4 (by kernel_rfl)
theorem v5 : wA RP RR 5 = true := aX6 5 (by kernel_rfl)
theorem v6 : wA RP RR 6 = true := aX6 6 (by kernel_rfl)
theorem v7 : wA RP RR 7 = true := aX6 7 (by kernel_rfl)
section
variable {p : Program} {l : OpenLaw}
theorem bU2 (a : p.modules = []) (b : p.parses = []) (c : p.harvested = []) (h : wA p l 0 = true) : p.tablesWhole = true := by
 unfold Program.tablesWhole TablesWhole.wProgram
 rw [a, b, c]
 exact Bool.and_eq_true_iff.mpr ⟨h, rfl⟩
theorem sd0 (h : wA p l 1 = true) : namesResolve p = true := h
theorem sd1 (hs : (importedModules p.main.body).all cThrough.contains = true) (hb : wA p l 2 = true) (h : wA p l 3 = true) : noRoadLSs { strict := !(importedModules p.main.body).all cThrough.contains, foot := none, bare := (["vars", "dir", "locals"] : List Str).filter (readsOut p p.main.body) } p.main.body = true := by
 rw [hs, List.isEmpty_iff.mp (show List.isEmpty _ = true from hb)]; exact h
theorem sd2 (h : wA p l 4 = true) : (namesMeet p p.main.body fun _ n => attrL n) = true := h
theorem sd3 (h : wA p l 5 = true) : noRoadLSs { strict := true, foot := some l.bound', writes := l.writes, may := l.may } l.footing = true := h
theorem sd4 (h : wA p l 6 = true) : (l.bound'.all fun n => !builtinNamed n || l.about == [n] || !l.reads n) = true := h
theorem sd6 (h : wA p l 7 = true) : (namesMeet l.prog l.above fun _ n => !l.own.contains n) = true := h
end
theorem cD9 : RP.bare := ⟨rfl, rfl, rfl, rfl, rfl, bU2 rfl rfl rfl v0⟩
theorem sd8 : (importedModules RP.main.body).all cThrough.contains = true := by kernel_rfl
theorem cR4 : RR.row.prog.theDef RR.row.name = some (lawD.1.params, lawD.1.body, lawD.1.scope) := by kernel_rfl
theorem dJ3 : kwWritten? lawD.1.params.kwonlyargs lawD.1.params.kw_defaults = some lawD.2 := by kernel_rfl
theorem cP7 : chainsOk qS = true := by kernel_rfl
theorem cU2 : opensWell RR.row.prog = true := by kernel_rfl
theorem cP1 : (frees RR.row.toRowW && RR.row.within.isEmpty) = true := by kernel_rfl
theorem dF4 : (chainsOk qS && opensWell RR.row.prog && (frees RR.row.toRowW && RR.row.within.isEmpty)) = true := by
 rw [cP7, cU2, cP1]; rfl
theorem cB9 : (OpenLaw.row PySem.Challenge.rw_sa0273_01).toRowW.promised := by w_witness2
theorem sd5 : (namesMeet RR.prog RR.footing fun sc n => (!(["type", "isinstance", "issubclass", "getattr", "hasattr"] : List Str).contains n || sc.names.lookup n == some .globalImplicit) && (RR.may != some n || sc.kind == .module || sc.names.lookup n == some .globalImplicit)) = true := by kernel_rfl
theorem sd7 : (namesMeet RR.prog RR.footing fun sc n => sc.kind == .module || sc.names.lookup n != some .globalExplicit) = true := by kernel_rfl
theorem said : RR.wellSaid = true := by
 unfold OpenLaw.wellSaid OpenRow.wellSaid OpenRow.partSaid looksOpen
 repeat' with_reducible refine look_both ?_ ?_
 all_goals first | with_reducible exact sd0 v1 | with_reducible exact sd1 sd8 v2 v3 | with_reducible exact sd2 v4 | with_reducible exact sd3 v5 | with_reducible exact sd4 v6 | with_reducible exact sd5 | with_reducible exact sd6 v7 | with_reducible exact sd7 | kernel_rfl
theorem hd {K : Params -> Frag} {obsF : Shared -> List (Option Obj)} {valF : World -> List (Option Obj)} {N : Nat} (left : LeftO pw qS aD7 xtS obsF valF N) (bW1 : ∀ w s, obsF s = valF w -> (K w.params).In s.heap)
  (call : WalkO qS aD7 (XL qS []) (fun w h => (K w.params).In h) RR.row.toRowW lawD.1 lawD.2 fun f vs => PySem.call f vs) : RR.Holds :=
 holds_law said fun s => PySem.W.holds_open (q := qS) (loose := aD7) (Xt := xtS) (XP := XL qS []) (Yf := obsF) (Ya := valF) (YP := fun w h => (K w.params).In h) (N := N) left bW1 (fun w h h' x k => Frag.In.keeps x k)
  (fun s e => xl_of s (Bool.and_eq_true_iff.mp e).1) XL.keeps cT8 cR4 dJ3 (fun s e => recFacts_of (Bool.and_eq_true_iff.mp e).2) (by rfl) s dF4 cD9 cB9 call
end
section
theorem cZ0 : bT = (bT.drop 0).take 35 ++ ((bT.drop 35).take 2 ++ ((bT.drop 37).take 96 ++ ((bT.drop 133).take 1 ++ ((bT.drop 134).take 26 ++ ((bT.drop 160).take 26 ++ ((bT.drop 186).take 19 ++ ((bT.drop 205).take 35 ++ []))))))) := by kernel_rfl
variable (w : World) (os : OsState)
theorem cY3 : topRun treeTable pw w 11 (some (Value.ref 6)) 2 (SharedT.abs (shT (stT 240 1356 239 w.params) 1356 2381 os)) (restOf [] envT (Code.body bT envT) ⟨1276, 0, 1305, 54⟩ [topFrame p00]) = some (finS w os) := by kernel_rfl
theorem cT0 : topGo treeTable pw w 11 (some (Value.ref 6)) 12 ⟨boot_heap w.params, { toList := [] }, boot_drawn, boot_toks, os⟩ (topStub pw)
 = some (SharedT.abs (shT (stT 0 15 0 w.params) 15 187 os), { cur := denote treeTable (Code.body bT envT), code := Code.body bT envT, pos := p00, stack := [topFrame p00] }) := by kernel_rfl
theorem bU4 : segRun treeTable pw w 11 (some (Value.ref 6)) 1 1 (SharedT.abs (shT (stT 0 15 0 w.params) 15 187 os)) (blockOf bT envT (Code.body bT envT) p00 [topFrame p00])
 = some (Flow.next, SharedT.abs (shT (stT 0 15 0 w.params) 15 187 os), Code.body bT envT, p00) := by kernel_rfl
theorem cV : topRun treeTable pw w 11 (some (Value.ref 6)) (12 + (1 + (6000 + (6000 + (6000 + (6000 + (6000 + (6000 + (6000 + (6000 + 2)))))))))) ⟨boot_heap w.params, { toList := [] }, boot_drawn, boot_toks, os⟩ (topStub pw) = some (finS w os) := by
 have h := piece_app (segRun_of (seg0 w os)) (piece_app (segRun_of (eD7 w os)) (piece_app (segRun_of (dW8 w os)) (piece_app (segRun_of (dH3 w os)) (piece_app (segRun_of (dS4 w os)) (piece_app (segRun_of (dT0 w os)) (piece_app (segRun_of (dF w os)) (piece_app (segRun_of (dL3 w os)) (cY3 w os))))))))
 rw [<- cZ0] at h
 exact go_top (cT0 w os) (piece_block (bU4 w os) h)
end
section
noncomputable def objK (P : Params) (a : Nat) : Obj := ((stT 240 1356 239 P).get a).getD default
noncomputable def needL : List Nat := (List.range 1356).filter (Nat.testBit 0xc60c183060c183060c183060c183060c183060c183060c183060c18380d812e03604a6c097060c1830603604a6c094d812e03604a6c094d8129b025c183060c183060c183060c183060c183060c18c183060c183060c183060c600d83060c183060481b060481b024c60c1830600d81206c09036049fffffffffffffffffc363060c093060c180360481b024c183060c183060c183060c183060c183006c183024cc94c946c09307fff)
noncomputable def KF (P : Params) : Frag := needL.map fun a => (a, objK P a)
variable (P : Params)
theorem eE0 : ((KF P).lookup sysModules).isSome = true := by kernel_rfl
theorem eD3 : blts.all (fun t => nsIn (KF P) mainGlobals (V t) == some none && (bootBuiltins (V t) == some (bltV t) && !(V t == Str.ofString "__name__"))) = true := by kernel_rfl
theorem dT6 : aT.all (fun e => aM7 (KF P) (V e.2.1) (V e.2.2)) = true := by kernel_rfl
noncomputable abbrev aW5 (K : Frag) (g : List (Nat × Nat)) := (g.map (viaT (bL8 K) clS), g.map (viaT (bR0 K) sdS), g.map (viaT (aV K) valS), g.map (viaT (fnG K (V "")) fiS))
noncomputable abbrev aW2 (g : List (Nat × Nat)) := (g.map fun e => clS (topS e.2), g.map fun e => sdS (topS e.2), g.map fun e => valS (topS e.2), g.map fun e => fiS (topS e.2))
theorem eH5 : aW5 (KF P) (gT.take 120) = aW2 (gT.take 120) := by kernel_rfl
theorem eG : aW5 (KF P) ((gT.drop 120).take 60) = aW2 ((gT.drop 120).take 60) := by kernel_rfl
theorem cN1 : aW5 (KF P) (gT.drop 180) = aW2 (gT.drop 180) := by kernel_rfl
theorem bD7 {K : Frag} {a b : List (Nat × Nat)} (h : aW5 K a = aW2 a) (k : aW5 K b = aW2 b) : aW5 K (a ++ b) = aW2 (a ++ b) := by
 simp only [aW5, aW2, List.map_append, Prod.mk.injEq] at h k ⊢
 simp only [h, k, and_self]
theorem cD5 : aW5 (KF P) gT = aW2 gT := bD7 (eH5 P) (bD7 (eG P) (cN1 P))
theorem eB0 : mT.map (fun e => fnG (KF P) (nmS (topS e.2.1)) (nmS (metS e.2))) = mT.map fun e => fiS (metS e.2) := by kernel_rfl
end
theorem fit (P : Params) : Fit (KF P) := ⟨eE0 P, eD3 P, congrArg (·.2.2.1) (cD5 P), congrArg (·.2.1) (cD5 P), congrArg (·.1) (cD5 P), congrArg (·.2.2.2) (cD5 P), eB0 P, dT6 P⟩
noncomputable def bA4 (t : BT) (a : Nat) : Bool := match t.get a with
 | some ⟨_, _, .freed, _⟩ => false
 | some _ => true
 | none => false
theorem bT1 (P : Params) : (List.range 1356).all (bA4 (dR9 P)) = true := by kernel_rfl
theorem cY8 {t : BT} {n : Nat} (h : (List.range n).all (bA4 t) = true) {a : Nat} (ha : a < n) : (absHeap t n {}).get? a = some ((t.get a).getD default) := by
 have x := List.all_eq_true.mp h a (List.mem_range.mpr ha)
 unfold bA4 at x
 cases e : t.get a with
 | none => rw [e] at x; cases x
 | some o =>
  rw [abs_get ha e]
  rw [e] at x
  obtain ⟨c, d, dt, sl⟩ := o
  cases dt <;> first | rfl | cases x
noncomputable def obsF (s : Shared) : List (Option Obj) := needL.map s.heap.get?
noncomputable def valF (w : World) : List (Option Obj) := needL.map fun a => some (objK w.params a)
theorem eB2 (w : World) (os : OsState) : obsF (finS w os) = valF w := by
 unfold obsF valF
 exact List.map_congr_left fun a ha => cY8 (bT1 w.params) (List.mem_range.mp (List.mem_filter.mp ha).1)
theorem bW1 (w : World) (s : Shared) (e : obsF s = valF w) : (KF w.params).In s.heap := by
 refine Frag.in_of (as := needL) ?_ ?_
 ·unfold KF; rw [List.map_map]; exact (List.map_id' _).symm
 ·unfold KF; rw [List.map_map]; exact e
theorem left : LeftO pw qS aD7 xtS obsF valF 50000 := by
 refine LeftO.of_pieces (H₀ := boot_heap) (H₁ := finH) (gs₀ := { toList := [] }) (gs₁ := { toList := [] }) (d₀ := boot_drawn) (d₁ := {}) (k₀ := boot_toks) (k₁ := 2381) (m₀ := 11) (ann := some (Value.ref 6))
  (boot_open (by kernel_rfl) (by rfl) fun s => by kernel_rfl) cM9 cV (by rfl) fun w => ?_
 funext os
 have e := eF5 (p := pw) (q := qS) (lo := aD7) (s := finS w os)
 have h1 : Heap.keysOk _ _ _ _ _ = true := (congrArg (·.1) e).symm.trans (k1 w os)
 have h2 : namesBound _ _ = true := (congrArg (·.2.1) e).symm.trans (k2 w os)
 refine Prod.ext ?_ (Prod.ext ?_ ?_)
 ·show (_ && _ && _ && _) = true
  rw [dQ6, h2, dU7, show gensDone _ = true from dN8 w os]; rfl
 ·show openSeen qS aD7 _ xtS true (finS w os) = _
  unfold openSeen openGood
  refine Prod.ext (dM5 w os) (Prod.ext (dX5 w) (Prod.ext ?_ (Prod.ext ((congrArg (·.2.2.1) e).symm.trans (k3 w os)) (Prod.ext (dN9 w os) (Prod.ext (eH8 w os) (Prod.ext (eD4 w os) (Prod.ext ((congrArg (·.2.2.2.1) e).symm.trans ((k4 w os).trans (congrArg (·.2.2.2.2) e))) (dY8 w os))))))))
  show (_ && _ && _ && _ && _ && _ && _) = true
  rw [h1, eA6, eG9, eA8, bY4, l_xt]; rfl
 ·exact eB2 w os
theorem law_holds : PySem.Challenge.rw_sa0273_01.Holds := hd left bW1 (J fit)
end
end Mine
theorem PySem.Challenge.cw_sa0273_01_holds : PySem.Challenge.rw_sa0273_01.Holds :=
 Mine.law_holds
