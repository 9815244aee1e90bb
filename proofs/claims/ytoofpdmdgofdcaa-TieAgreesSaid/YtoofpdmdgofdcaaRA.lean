/- Typed symbolic values over the abstract ones, and a function that runs code on them: definitions. Generic in the program; no condition. -/
import Derived.Test.YtoofpdmdgofdcaaEC
namespace Go.Proofs.Ytoofpdmdgofdcaa.X
open Go Go.RowKit Go.Proofs.Ytoofpdmdgofdcaa.E
set_option linter.unusedVariables false
set_option linter.unusedSimpArgs false

/-- Types of data. -/
inductive GT where
  | bool
  | int (k : IntKind)
  | byte
  | str
  | unit
  | pair (a b : GT)
  | list (a : GT)

@[reducible] def GT.T : GT → Type
  | .bool => Bool
  | .int _ => Int
  | .byte => UInt8
  | .str => List UInt8
  | .unit => Unit
  | .pair a b => a.T × b.T
  | .list a => List a.T

/-- How many cells. -/
def GT.sz : GT → Nat
  | .unit => 0
  | .pair a b => a.sz + b.sz
  | _ => 1

/-- The cells of a datum. -/
def GT.av : (g : GT) → g.T → List AV
  | .bool, x => [.b x]
  | .int k, x => [.i k x]
  | .byte, x => [.i .u8 (UInt8.toNat x : Int)]
  | .str, x => [.s x]
  | .unit, _ => []
  | .pair a b, x => a.av (Prod.fst x) ++ b.av (Prod.snd x)
  | .list a, l => [.sl .no (List.length l) (List.flatMap a.av l)]

def GT.dflt : (g : GT) → g.T
  | .bool => false
  | .int _ => (0 : Int)
  | .byte => (0 : UInt8)
  | .str => ([] : List UInt8)
  | .unit => ()
  | .pair a b => (a.dflt, b.dflt)
  | .list _ => []

/-- Are they the same? -/
def GT.same : (a b : GT) → Option (PLift (a = b))
  | .bool, .bool => some ⟨rfl⟩
  | .int k, .int k' => if h : k = k' then some ⟨congrArg _ h⟩ else none
  | .byte, .byte => some ⟨rfl⟩
  | .str, .str => some ⟨rfl⟩
  | .unit, .unit => some ⟨rfl⟩
  | .pair a b, .pair a' b' => match GT.same a a', GT.same b b' with
    | some ⟨h⟩, some ⟨h'⟩ => some ⟨by rw [h, h']⟩
    | _, _ => none
  | .list a, .list a' => match GT.same a a' with
    | some ⟨h⟩ => some ⟨congrArg _ h⟩
    | none => none
  | _, _ => none

def GT.cast {a b : GT} (h : a = b) (l : List a.T) : List b.T := Eq.mp (congrArg (fun g => List (GT.T g)) h) l

/-- Where the objects stand; the value that is set aside, if one is. -/
structure Cx where
  f : Nat → Nat
  x : Option Value
instance : CoeFun Cx (fun _ => Nat → Nat) := ⟨Cx.f⟩

/-- A typed symbolic value. -/
inductive SV where
  | raw (c : AV)
  | tt
  | ff
  | b (x : Bool)
  | i (k : IntKind) (n : Int)
  | y (x : UInt8)
  | s (l : List UInt8)
  | nils
  | sl0
  | sl (own : Bool) (g : GT) (l : List g.T)
  | agg (cs : List SV)
  | tup (cs : List SV)
  | pi (g : GT) (l : List g.T) (k off : Nat)
  | pm (id off : Nat)
  | sv (z id n : Nat)
  | pv (z id k off : Nat)
  | fn (f : FuncId) (cs : List SV)
  | pin

mutual
def SV.av (f : Cx) : SV → AV
  | .raw c => c
  | .tt => .b true
  | .ff => .b false
  | .b x => .b x
  | .i k n => .i k n
  | .y x => .i .u8 (x.toNat : Int)
  | .s l => .s l
  | .nils => .sl .nil 0 []
  | .sl0 => .sl .no 0 []
  | .sl o g l => .sl (match o with | true => .yes g.sz | false => .no) (List.length l) (List.flatMap g.av l)
  | .agg cs => .agg (SV.avs f cs)
  | .tup cs => .tup (SV.avs f cs)
  | .pi g l k off => .pi (List.flatMap g.av l) (k * g.sz + off)
  | .pm id off => .pm (f id) off
  | .sv z id n => .sm (f id) 0 n n z
  | .pv z id k off => .pm (f id) (k * z + off)
  | .fn g cs => .fn g (SV.avs f cs)
  | .pin => match f.x with | some x => .val x | none => .u
def SV.avs (f : Cx) : List SV → List AV
  | [] => []
  | c :: cs => SV.av f c :: SV.avs f cs
end

/-- No memory of a run in it. -/
def SV.u : SV := .raw .u

def UInt8.ofI (n : Int) : UInt8 := UInt8.ofNat n.toNat

/-- A value that names no memory. -/
def ofAV : AV → SV
  | .b true => .tt
  | .b false => .ff
  | .i .u8 n => if decide (0 ≤ n) && decide (n < 256) then .y (UInt8.ofNat n.toNat) else .raw (.i .u8 n)
  | .i k n => .i k n
  | .s l => .s l
  | .sl .nil 0 [] => .nils
  | .fn f [] => .fn f []
  | .agg cs => .agg (cs.map fun c => match c with
    | .b true => .tt
    | .b false => .ff
    | .i .u8 n => if decide (0 ≤ n) && decide (n < 256) then .y (UInt8.ofNat n.toNat) else .raw (.i .u8 n)
    | .i k n => .i k n
    | .s l => .s l
    | .sl .nil 0 [] => .nils
    | c => .raw c)
  | .tup [] => .tup []
  | c => .raw c

/-- The cells of a datum, as symbolic values. -/
def GT.sv : (g : GT) → g.T → List SV
  | .bool, x => [.b x]
  | .int k, x => [.i k x]
  | .byte, x => [.y x]
  | .str, x => [.s x]
  | .unit, _ => []
  | .pair a b, x => a.sv (Prod.fst x) ++ b.sv (Prod.snd x)
  | .list a, l => [.sl false a l]

/-- A slice of such, if it is one. -/
def asL (g : GT) : SV → Option (List g.T)
  | .nils => some []
  | .sl0 => some []
  | .sl _ g' l => match GT.same g' g with
    | some ⟨h⟩ => some (GT.cast h l)
    | none => none
  | _ => none

/-- A datum out of its cells; what is behind it. -/
def GT.dec : (g : GT) → List SV → Option (g.T × List SV)
  | .unit, r => some ((), r)
  | .pair a b, r => match a.dec r with
    | some (x, r') => match b.dec r' with
      | some (y, r'') => some ((x, y), r'')
      | none => none
    | none => none
  | .bool, c :: r => match c with
    | .tt => some (true, r)
    | .ff => some (false, r)
    | .b x => some (x, r)
    | _ => none
  | .int k, c :: r => match c with
    | .i k' n => if k = k' then some (n, r) else none
    | _ => none
  | .byte, c :: r => match c with
    | .y x => some (x, r)
    | _ => none
  | .str, c :: r => match c with
    | .s x => some (x, r)
    | _ => none
  | .list a, c :: r => match asL a c with
    | some l => some (l, r)
    | none => none
  | _, [] => none

def GT.decN (g : GT) : Nat → List SV → Option (List g.T)
  | 0, [] => some []
  | 0, _ :: _ => none
  | n + 1, r => match g.dec r with
    | some (x, r') => match g.decN n r' with
      | some l => some (x :: l)
      | none => none
    | none => none

/-- The type of data of a type of the program. -/
def gtOf (P : Program) : Nat → TypeId → Option GT
  | 0, _ => none
  | n + 1, t => match P.underlying t with
    | some .bool => some .bool
    | some (.int .u8) => some .byte
    | some (.int k) => some (.int k)
    | some .string => some .str
    | some (.slice e) => match gtOf P n e with
      | some g => some (.list g)
      | none => none
    | some (.struct fs) => fs.toList.foldr (fun f r => match gtOf P n f.type, r with
      | some a, some .unit => some a
      | some a, some b => some (.pair a b)
      | _, _ => none) (some .unit)
    | _ => none

/-! ### What is done to one -/
def SV.pl : SV → SV
  | .sl _ g l => .sl false g l
  | .nils => .sl0
  | .tup _ => .raw .u
  | .raw c => .raw c.pl
  | c => c

def SV.pn : SV → SV
  | .nils => .nils
  | .tup cs => .tup (cs.map SV.pl)
  | .raw c => .raw (AV.pn c)
  | c => c.pl

def SV.st : SV → SV
  | .sl true g l => .sl false g l
  | .tup _ => .raw .u
  | .raw c => .raw c.st
  | c => c

def SV.ar : SV → SV
  | .agg cs => .agg (cs.map SV.pl)
  | .nils => .nils
  | .raw c => .raw c.ar
  | c => c.pl

def SV.one : SV → Bool
  | .raw c => E.one c
  | .agg _ | .tup _ | .pin => false
  | _ => true

def SV.known1 : SV → Bool
  | .raw c => E.known1 c
  | .tup _ | .pin => false
  | _ => true

/-- Does it bear room, or is it nil, so that taking it changes its place? -/
def SV.loud : SV → Bool
  | .sl true _ _ | .nils | .tup _ | .raw _ => true
  | _ => false

/-! ### States -/
inductive SO where
  | cells (cs : List SV)
  | vec (g : GT) (l : List g.T)

def SO.ao (f : Cx) : SO → AObj
  | .cells cs => .cells (SV.avs f cs)
  | .vec g l => .cells (List.flatMap g.av l)

/-- The temporaries, the objects; which temporaries, and which cells, were written. -/
structure St where
  env : List SV
  σ : List SO
  wl : List Nat
  cl : List (Nat × Nat)

inductive SX where
  | normal
  | exit (id : Nat)
  | ret

/-- What comes of a piece of code. -/
inductive Tree where
  | stuck
  | leaf (x : SX) (s : St)
  | req (g : Bool) (t : Tree)
  | ite (c : Bool) (t e : Tree)

def den : Tree → (SX → St → Prop) → Prop
  | .stuck, _ => False
  | .leaf x s, Q => Q x s
  | .req g t, Q => g = true ∧ den t Q
  | .ite c t e, Q => (c = true → den t Q) ∧ (c = false → den e Q)

/-- What follows, where it goes on. -/
def Tree.bind : Tree → (St → Tree) → Tree
  | .stuck, _ => .stuck
  | .leaf .normal s, k => k s
  | .leaf x s, _ => .leaf x s
  | .req g t, k => .req g (t.bind k)
  | .ite c t e, k => .ite c (t.bind k) (e.bind k)

/-- At the end of a block. -/
def Tree.block (id : Nat) : Tree → Tree
  | .leaf (.exit i) s => if i = id then .leaf .normal s else .leaf (.exit i) s
  | .req g t => .req g (t.block id)
  | .ite c t e => .ite c (t.block id) (e.block id)
  | t => t

def ok (s : St) : Tree := .leaf .normal s

def St.set (s : St) (d : Nat) (v : SV) : St := { s with env := s.env.set d v, wl := d :: s.wl }
def St.put (s : St) (d : Option Tmp) (v : SV) : St :=
  match d with
  | some d => s.set d v
  | none => s
def St.get (s : St) (t : Nat) : SV := s.env.getD t (.raw .u)
def St.new (s : St) (o : SO) : St := { s with σ := s.σ ++ [o], cl := (s.σ.length, 0) :: s.cl }
/-- A cell is written. -/
def St.setC (s : St) (id off : Nat) (cs : List SV) (v : SV) : St := { s with σ := s.σ.set id (.cells (cs.set off v)), cl := (id, off) :: s.cl }
def St.setV (s : St) (id : Nat) (g : GT) (l : List g.T) : St := { s with σ := s.σ.set id (.vec g l), cl := (id, 0) :: s.cl }

def sev (s : St) : Operand → SV
  | .tmp t => s.get t
  | .const v => ofAV (cst v)
  | .global _ => .raw .u
  | .func f => .fn f []

/-- The place of a value is left without its room. -/
def St.setPl (s : St) (x : Operand) : St :=
  match x with
  | .tmp t => match (s.get t).loud with
    | true => s.set t (s.get t).pl
    | false => s
  | _ => s

/-- A value is taken over, with its room. -/
def stake (s : St) (x : Operand) (d : Option Tmp) : Tree := ok ((s.setPl x).put d (sev s x))

/-! ### Operators -/
/-- A value, or nothing told; what has to hold for it. -/
inductive VR where
  | no
  | val (v : SV)
  | req (g : Bool) (v : SV)

def VR.put (r : VR) (s : St) (d : Option Tmp) : Tree :=
  match r with
  | .no => .stuck
  | .val v => ok (s.put d v)
  | .req g v => .req g (ok (s.put d v))

def sint (op : BinOp) (k : IntKind) (x : Int) (k' : IntKind) (y : Int) : VR :=
  match op with
  | .shl => .req (decide (0 ≤ y) && inRb k (x * 2 ^ (min y.toNat k.bits))) (.i k (x * 2 ^ (min y.toNat k.bits)))
  | .shr => .req (decide (0 ≤ y)) (.i k (x.fdiv (2 ^ (min y.toNat k.bits))))
  | op => if k = k' then (match op with
    | .add => .req (inRb k (x + y)) (.i k (x + y))
    | .sub => .req (inRb k (x - y)) (.i k (x - y))
    | .mul => .req (inRb k (x * y)) (.i k (x * y))
    | .quo => .req (!(y == 0) && inRb k (x.tdiv y)) (.i k (x.tdiv y))
    | .rem => .req (!(y == 0)) (.i k (x.tmod y))
    | .eql => .val (.b (x == y))
    | .neq => .val (.b (!(x == y)))
    | .lss => .val (.b (decide (x < y)))
    | .leq => .val (.b (decide (x ≤ y)))
    | .gtr => .val (.b (decide (y < x)))
    | .geq => .val (.b (decide (y ≤ x)))
    | .and => .val (.i k (k.wrap (BitVec.ofInt k.bits x &&& BitVec.ofInt k.bits y).toNat))
    | .or => .val (.i k (k.wrap (BitVec.ofInt k.bits x ||| BitVec.ofInt k.bits y).toNat))
    | .xor => .val (.i k (k.wrap (BitVec.ofInt k.bits x ^^^ BitVec.ofInt k.bits y).toNat))
    | .andNot => .val (.i k (k.wrap (BitVec.ofInt k.bits x &&& ~~~BitVec.ofInt k.bits y).toNat))
    | _ => .no) else .no

def sbyte (op : BinOp) (x y : UInt8) : VR :=
  match op with
  | .add => .val (.y (x + y))
  | .sub => .val (.y (x - y))
  | .mul => .val (.y (x * y))
  | .quo => .req (!(y == 0)) (.y (x / y))
  | .rem => .req (!(y == 0)) (.y (x % y))
  | .eql => .val (.b (x == y))
  | .neq => .val (.b (!(x == y)))
  | .lss => .val (.b (decide (x < y)))
  | .leq => .val (.b (decide (x ≤ y)))
  | .gtr => .val (.b (decide (y < x)))
  | .geq => .val (.b (decide (y ≤ x)))
  | _ => .no

def sstr (op : BinOp) (x y : List UInt8) : VR :=
  match op with
  | .add => .req (decide (x.length + y.length ≤ 1152921504606846976)) (.s (x ++ y))
  | .eql => .val (.b (x == y))
  | .neq => .val (.b (!(x == y)))
  | .lss => .val (.b (Op.bytesLess x y))
  | .leq => .val (.b (Op.bytesLess x y || x == y))
  | .gtr => .val (.b (!(Op.bytesLess x y || x == y)))
  | .geq => .val (.b (!Op.bytesLess x y))
  | _ => .no

def sbool (P : Program) (op : BinOp) (t : TypeId) (x y : Bool) : VR :=
  match P.underlying t with
  | some .bool => match op with
    | .eql => .val (.b (x == y))
    | .neq => .val (.b (!(x == y)))
    | _ => .no
  | _ => .no

def isB : SV → Option Bool
  | .tt => some true
  | .ff => some false
  | .b x => some x
  | _ => none

/-- Field by field. -/
def seqF (P : Program) : List Field → List SV → List SV → Option Bool
  | [], [], [] => some true
  | f :: fs, c :: cs, d :: ds => match P.underlying f.type with
    | some (.int _) => match c, d with
      | .i k x, .i k' y => if k = k' then andK (x == y) (seqF P fs cs ds) else none
      | .y x, .y y => andK (x == y) (seqF P fs cs ds)
      | _, _ => none
    | some .string => match c, d with
      | .s x, .s y => andK (x == y) (seqF P fs cs ds)
      | _, _ => none
    | some .bool => match isB c, isB d with
      | some x, some y => andK (x == y) (seqF P fs cs ds)
      | _, _ => none
    | _ => none
  | _, _, _ => none

def saggEq (P : Program) (op : BinOp) (t : TypeId) (cs ds : List SV) : VR :=
  match P.underlying t with
  | some (.struct fs) => match flatOK P t fs with
    | true => match seqF P fs.toList cs ds with
      | some r => match op with
        | .eql => .val (.b r)
        | .neq => .val (.b (!r))
        | _ => .no
      | none => .no
    | false => .no
  | _ => .no

def sbin (P : Program) (op : BinOp) (t : TypeId) (x y : SV) : VR :=
  match x, y with
  | .i k x, .i k' y => sint op k x k' y
  | .y x, .y y => sbyte op x y
  | .s x, .s y => sstr op x y
  | .agg cs, .agg ds => saggEq P op t cs ds
  | x, y => match isB x, isB y with
    | some x, some y => sbool P op t x y
    | _, _ => .no

def sun (op : UnOp) (x : SV) : VR :=
  match op, x with
  | .not, .tt => .val .ff
  | .not, .ff => .val .tt
  | .not, .b b => .val (.b (!b))
  | .neg, .i k n => .req (inRb k (0 - n)) (.i k (0 - n))
  | _, _ => .no

def scnv (P : Program) (src dst : TypeId) (x : SV) : VR :=
  match P.underlying src, P.underlying dst with
  | some ds, some (.int k) => (match x with
    | .i _ n => match k with
      | .u8 => .val (.y (UInt8.ofNat (n % 256).toNat))
      | k => .req (inRb k n) (.i k n)
    | .y x => match k with
      | .u8 => .val (.y x)
      | .i8 => .no
      | k => .val (.i k x.toNat)
    | _ => .no)
  | some ds, some .string => (match x with
    | .s l => .val (.s l)
    | x => match ds with
      | .slice e => match P.underlying e with
        | some (.int .u8) => match asL .byte x with
          | some l => .req (decide (l.length ≤ 1152921504606846976)) (.s l)
          | none => .no
        | _ => .no
      | _ => .no)
  | some _, some (.slice e) => (match x with
    | .s l => match P.underlying e with
      | some (.int .u8) => .req (decide (l.length ≤ 281474976710656)) (.sl false .byte l)
      | _ => .no
    | _ => .no)
  | _, _ => .no

def sindex (P : Program) (t : TypeId) (x ix : SV) : VR :=
  match ix with
  | .i _ i => match P.underlying t with
    | some .string => match x with
      | .s l => .req (decide (0 ≤ i) && decide (i < (l.length : Int))) (.y (l.getD i.toNat 0))
      | _ => .no
    | _ => .no
  | .y b => match P.underlying t with
    | some .string => match x with
      | .s l => .req (decide (b.toNat < l.length)) (.y (l.getD b.toNat 0))
      | _ => .no
    | _ => .no
  | _ => .no

def sidxL (P : Program) (e : TypeId) (x : SV) (i : Int) : VR :=
  match x with
  | .sl _ g l => match tsize P e with
    | some sz => if sz = g.sz then .req (decide (0 ≤ i) && decide (i < (l.length : Int))) (.pi g l i.toNat 0) else .no
    | none => .no
  | .sv z id n => match tsize P e with
    | some sz => if sz = z then .req (decide (0 ≤ i) && decide (i < (n : Int))) (.pv z id i.toNat 0) else .no
    | none => .no
  | _ => .no

def sidx (P : Program) (t : TypeId) (x ix : SV) : VR :=
  match P.underlying t with
  | some (.slice e) => match ix with
    | .i _ i => sidxL P e x i
    | .y b => sidxL P e x (b.toNat : Int)
    | _ => .no
  | _ => .no

def soff (x : SV) (n : Nat) : VR :=
  match x with
  | .pi g l k off => .val (.pi g l k (off + n))
  | .pm id off => .val (.pm id (off + n))
  | .pv z id k off => .val (.pv z id k (off + n))
  | _ => .no

def sfieldAddr (P : Program) (t : TypeId) (x : SV) (f : Nat) : VR :=
  match P.underlying t with
  | some (.struct fs) => match fs[f]? with
    | some fd => match tsize P fd.type with
      | some n => if n = 0 then .no else soff x fd.offset
      | none => .no
    | none => .no
  | _ => .no

def sfield (P : Program) (t : TypeId) (x : SV) (f : Nat) : VR :=
  match P.underlying t with
  | some (.struct fs) => match fs[f]? with
    | some fd => match x with
      | .agg cs => match P.underlying fd.type with
        | some d => if aggT d then (match tsize P fd.type with | some n => .val (.agg ((cs.drop fd.offset).take n)) | none => .no) else (match cs[fd.offset]? with | some c => .val c.pl | none => .no)
        | none => .no
      | _ => .no
    | none => .no
  | _ => .no

/-- The cells that a pointer points to. -/
def sread (s : St) (x : SV) (n : Nat) : Option (Option Bool × List SV) :=
  match x with
  | .pi g l k off => match decide (off + n ≤ g.sz) with
    | true => some (some (decide (k < l.length)), ((g.sv (l.getD k g.dflt)).drop off).take n)
    | false => none
  | .pm id off => match s.σ[id]? with
    | some (.cells cs) => match decide (off + n ≤ cs.length) with
      | true => some (none, (cs.drop off).take n)
      | false => none
    | _ => none
  | .pv z id k off => match s.σ[id]? with
    | some (.vec g l) => match decide (off + n ≤ g.sz) && decide (z = g.sz) with
      | true => some (some (decide (k < l.length)), ((g.sv (l.getD k g.dflt)).drop off).take n)
      | false => none
    | _ => none
  | _ => none

def vreq (g : Option Bool) (v : SV) : VR :=
  match g with
  | none => .val v
  | some g => .req g v

def sload (P : Program) (s : St) (t : TypeId) (x : SV) : VR :=
  match P.underlying t with
  | some d => if aggT d then (match tsize P t with
      | some n => if n = 0 then .no else (match sread s x n with
        | some (g, cs) => vreq g (.agg (cs.map SV.pl))
        | none => .no)
      | none => .no)
    else (match sread s x 1 with
      | some (g, [c]) => vreq g c.pl
      | _ => .no)
  | none => .no

/-- A bound of a slice. -/
def sbnd (s : St) (x : Option Operand) (d : Int) : Option Int :=
  match x with
  | none => some d
  | some x => match sev s x with
    | .i _ n => some n
    | .y b => some (b.toNat : Int)
    | _ => none

def sslice (P : Program) (s : St) (t : TypeId) (x : SV) (lo hi mx : Option Operand) : VR :=
  match mx with
  | some _ => .no
  | none => match sbnd s lo 0 with
    | none => .no
    | some l => match P.underlying t with
      | some .string => (match x with
        | .s a => match sbnd s hi a.length with
          | some h => .req (decide (0 ≤ l) && decide (l ≤ h) && decide (h ≤ (a.length : Int))) (.s ((a.take h.toNat).drop l.toNat))
          | none => .no
        | _ => .no)
      | some (.slice e) => (match x with
        | .sl _ g a => match tsize P e with
          | some sz => if sz = g.sz then (match sbnd s hi (List.length a) with
            | some h => .req (decide (0 ≤ l) && decide (l ≤ h) && decide (h ≤ (List.length a : Int))) (.sl false g ((List.take h.toNat a).drop l.toNat))
            | none => .no) else .no
          | none => .no
        | _ => .no)
      | _ => .no

/-- A composite's parts, put in their places. -/
def ssetN (cs : List SV) (off : Nat) : List SV → List SV
  | [] => cs
  | v :: r => ssetN (cs.set off v) (off + 1) r

def scellsOf : SV → List SV
  | .agg cs => cs
  | c => [c]

def sfill (P : Program) (s : St) (t : TypeId) (cs : List SV) : List (Nat × Operand) → Option (List SV)
  | [] => some cs
  | (i, x) :: r => match places P t i with
    | some (off, n) => match (sev s x).known1 && (match sev s x with | .raw (.agg _) => false | _ => true) && (scellsOf (sev s x)).length == n && decide (off + n ≤ cs.length) with
      | true => sfill P s t (ssetN cs off ((scellsOf (sev s x)).map SV.st)) r
      | false => none
    | none => none

def szero (P : Program) (t : TypeId) : Option (List SV) := (tzero P t).map fun cs => cs.map ofAV

def sbuild (P : Program) (s : St) (t : TypeId) (parts : List (Nat × Operand)) : VR :=
  match P.underlying t with
  | some d => match aggT d && okT P t with
    | true => match szero P t with
      | some cs => match sfill P s t cs parts with
        | some r => .val (.agg r)
        | none => .no
      | none => .no
    | false => .no
  | none => .no

def szeros (zs : List SV) : Nat → List SV
  | 0 => []
  | n + 1 => zs ++ szeros zs n

def sbuildSlice (P : Program) (s : St) (t : TypeId) (len : Nat) (parts : List (Nat × Operand)) : VR :=
  match P.underlying t with
  | some (.slice e) => match szero P e, gtOf P 20 e with
    | some zs, some g => match decide (tsize P e = some zs.length) && decide (zs.length = g.sz) && decide (len * zs.length ≤ 16777216) && decide (len ≤ 16777216) && decide (0 < zs.length) with
      | true => match sfill P s t (szeros zs len) parts with
        | some r => match g.decN len r with
          | some l => .val (.sl true g l)
          | none => .no
        | none => .no
      | false => .no
    | _, _ => .no
  | _ => .no

def slen (P : Program) (t : TypeId) (x : SV) : VR :=
  match P.underlying t, x with
  | some .string, .s l => .val (.i .i64 l.length)
  | some (.slice _), .nils => .val (.i .i64 0)
  | some (.slice _), .sl0 => .val (.i .i64 0)
  | some (.slice _), .sl _ g l => .val (.i .i64 (List.length l))
  | some (.slice _), .sv _ _ n => .val (.i .i64 n)
  | _, _ => .no

def smin2 (x y : SV) : Option SV :=
  match x, y with
  | .i k x, .i k' y => if k = k' then some (.i k (if y < x then y else x)) else none
  | _, _ => none
def smax2 (x y : SV) : Option SV :=
  match x, y with
  | .i k x, .i k' y => if k = k' then some (.i k (if y > x then y else x)) else none
  | _, _ => none
def sfold (f : SV → SV → Option SV) : SV → List SV → Option SV
  | x, [] => some x
  | x, y :: r => match f x y with
    | some z => sfold f z r
    | none => none

/-- What is appended, and what is asked for it. -/
def ssrc (s : St) (g : GT) (x : SV) : Option (Bool × List g.T) :=
  match x with
  | .s l => match GT.same .byte g with
    | some ⟨h⟩ => some (true, GT.cast h l)
    | none => none
  | .sv z id n => match s.σ[id]? with
    | some (.vec g' l) => match GT.same g' g with
      | some ⟨h⟩ => match decide (z = g'.sz) with
        | true => some (decide (n ≤ l.length), (GT.cast h l).take n)
        | false => none
      | none => none
    | _ => none
  | x => match asL g x with
    | some l => some (true, l)
    | none => none

def sappend (P : Program) (s : St) (ts : Array TypeId) (xs : Array Operand) (d : Option Tmp) : Tree :=
  match ts[0]?, ts[1]?, xs[0]?, xs[1]? with
  | some t, some t', some a, some x => match P.underlying t' with
    | some (.int _) => .stuck
    | some _ => match P.underlying t with
      | some (.slice e) => match tsize P e, tbytes P e, gtOf P 20 e with
        | some sz, some by_, some g => match decide (tzlen P e = some sz) && decide (sz = g.sz) && decide (0 < sz) with
          | true => match ssrc s g (sev s x) with
            | some (q, m) => (match sev s a with
              | .nils => .req (q && decide (2 * m.length * by_ ≤ 281474976710656) && decide (m.length ≤ 281474976710656)) (ok ((s.setPl a).put d (.sl true g m)))
              | .sl true g' l => match GT.same g' g with
                | some ⟨h⟩ => .req (q && decide (2 * (l.length + m.length) * by_ ≤ 281474976710656) && decide (l.length + m.length ≤ 281474976710656)) (ok ((s.setPl a).put d (.sl true g (GT.cast h l ++ m))))
                | none => .stuck
              | _ => .stuck)
            | none => .stuck
          | false => .stuck
        | _, _, _ => .stuck
      | _ => .stuck
    | none => .stuck
  | _, _, _, _ => .stuck

def smake (P : Program) (s : St) (t : TypeId) (l c : SV) (d : Option Tmp) : Tree :=
  match l, c with
  | .i _ l, .i _ c => match P.underlying t with
    | some (.slice e) => match szero P e, tbytes P e, gtOf P 20 e with
      | some zs, some by_, some g => match decide (tsize P e = some zs.length) && decide (zs.length = g.sz) && decide (0 < zs.length) && zs.all (fun c => !c.loud) with
        | true => match g.dec zs with
          | some (x, []) => .req (decide (0 ≤ l) && decide (l = c) && decide (l * by_ ≤ 140737488355328) && decide (l ≤ 281474976710656)) (ok ((s.new (.vec g (List.replicate l.toNat x))).put d (.sv g.sz s.σ.length l.toNat)))
          | _ => .stuck
        | false => .stuck
      | _, _, _ => .stuck
    | _ => .stuck
  | _, _ => .stuck

def sstore (P : Program) (s : St) (t : TypeId) (a x : Operand) : Tree :=
  match sev s a with
  | .pm id off => match s.σ[id]? with
    | some (.cells cs) => match sev s x with
      | .agg vs => match decide (tsize P t = some vs.length) && vs.all SV.one && decide (off + vs.length ≤ cs.length) with
        | true => ok { s with σ := s.σ.set id (.cells (ssetN cs off (vs.map SV.st))), cl := (List.range vs.length).map (fun j => (id, off + j)) ++ s.cl }
        | false => .stuck
      | c => match c.one && decide (tsize P t = some 1) && decide (off < cs.length) with
        | true => ok ((s.setPl x).setC id off cs c)
        | false => .stuck
    | _ => .stuck
  | .pv z id k off => match s.σ[id]? with
    | some (.vec g l) => match decide (z = g.sz) && decide (off = 0) && decide (tsize P t = some g.sz) with
      | true => match g.dec (scellsOf (sev s x)) with
        | some (v, []) => match (scellsOf (sev s x)).all fun c => !c.loud && c.one with
          | true => .req (decide (k < l.length)) (ok (s.setV id g (List.set l k v)))
          | false => .stuck
        | _ => .stuck
      | false => .stuck
    | _ => .stuck
  | _ => .stuck

def sbox (s : St) (x : Operand) (d : Option Tmp) : Tree :=
  match sev s x with
  | .agg cs => ok ((s.new (.cells (cs.map SV.st))).put d (.pm s.σ.length 0))
  | c => match c.one with
    | true => ok (((s.setPl x).new (.cells [c])).put d (.pm s.σ.length 0))
    | false => .stuck

def sextract (s : St) (x : Operand) (i : Nat) (d : Option Tmp) : Tree :=
  match x with
  | .tmp t => match s.get t with
    | .tup cs => match cs[i]? with
      | some c => match c with
        | .tup _ => .stuck
        | .raw _ => .stuck
        | c => ok ((match c.loud with | true => s.set t (.tup (cs.set i c.pl)) | false => s).put d c)
      | none => .stuck
    | _ => .stuck
  | _ => .stuck

/-- One of two values. -/
def pickB (c x y : Bool) : Bool := bif c then x else y

/-- One of two, as one: 'none': they are not alike. -/
def mergeV (c : Bool) (x y : SV) : Option SV :=
  match x, y with
  | .tt, .tt => some .tt
  | .ff, .ff => some .ff
  | .tt, .ff => some (.b c)
  | .ff, .tt => some (.b (!c))
  | .b x, .ff => some (.b (c && x))
  | .tt, .b y => some (.b (c || y))
  | .ff, .b y => some (.b (!c && y))
  | .b x, .tt => some (.b (!c || x))
  | .b x, .b y => some (.b (bif c then x else y))
  | .i k x, .i k' y => if k = k' then some (.i k (bif c then x else y)) else none
  | .y x, .y y => some (.y (bif c then x else y))
  | .s x, .s y => some (.s (bif c then x else y))
  | .nils, .nils => some .nils
  | .sl0, .sl0 => some .sl0
  | .sl o g x, .sl o' g' y => match GT.same g g' with
    | some ⟨h⟩ => some (.sl (o && o') g' (bif c then GT.cast h x else y))
    | none => none
  | .nils, .sl o g y => some (.sl o g (bif c then [] else y))
  | .sl o g x, .nils => some (.sl o g (bif c then x else []))
  | .sl0, .sl _ g y => some (.sl false g (bif c then [] else y))
  | .sl _ g x, .sl0 => some (.sl false g (bif c then x else []))
  | .nils, .sl0 => some .sl0
  | .sl0, .nils => some .sl0
  | .pm a b, .pm a' b' => if a = a' ∧ b = b' then some (.pm a b) else none
  | _, _ => none

def spick (s : St) (c x y : SV) (d : Option Tmp) : Tree :=
  match c with
  | .tt => ok (s.put d x.pl)
  | .ff => ok (s.put d y.pl)
  | .b c => .ite c (ok (s.put d x.pl)) (ok (s.put d y.pl))
  | _ => .stuck

/-- What is known of calls: for each function, what it gives, whatever the state. -/
abbrev Tab := FuncId → List SV → VR

/-- An argument that is memory, as it stands. -/
def sfrz (s : St) (x : SV) : SV := x

def scall (T : Tab) (s : St) (c : Call) (d : Option Tmp) : Tree :=
  match c.callee with
  | .value f => match sev s f with
    | .fn f cap => (T f ((c.args.toList.map fun x => (sev s x).ar) ++ cap.map SV.pl)).put s d
    | _ => .stuck
  | _ => .stuck

def sop (P : Program) (T : Tab) (rest : List Oper) (o : Oper) (s : St) : Tree :=
  match o.op with
  | .assign x => stake s x o.dst
  | .move x => if feeds rest o.dst then stake s x o.dst else ok (s.put o.dst (sev s x).pn)
  | .load t a => if feeds rest o.dst then (match P.underlying t with
      | some dd => if aggT dd then .stuck else (match sev s a with
        | .pm id off => match s.σ[id]? with
          | some (.cells cs) => match cs[off]? with
            | some c => match c.one with
              | true => ok ((match c.loud with | true => s.setC id off cs c.pl | false => s).put o.dst c)
              | false => .stuck
            | none => .stuck
          | _ => .stuck
        | _ => .stuck)
      | none => .stuck)
    else (sload P s t (sev s a)).put s o.dst
  | .alloc t => match szero P t with
    | some cs => ok ((s.new (.cells cs)).put o.dst (.pm s.σ.length 0))
    | none => .stuck
  | .box _ x => sbox s x o.dst
  | .build t parts => (sbuild P s t parts.toList).put s o.dst
  | .buildSlice t len parts => (sbuildSlice P s t len parts.toList).put s o.dst
  | .store t a x => match o.dst with
    | none => sstore P s t a x
    | some _ => .stuck
  | .nilCheck x => match sev s x with
    | .pi g l k off => ok (s.put o.dst (.pi g l k off))
    | .pm id off => ok (s.put o.dst (.pm id off))
    | .pv z id k off => ok (s.put o.dst (.pv z id k off))
    | _ => .stuck
  | .binOp op t x y _ => (sbin P op t (sev s x) (sev s y)).put s o.dst
  | .unOp op _ x => (sun op (sev s x)).put s o.dst
  | .convert src dst x => (scnv P src dst (sev s x)).put s o.dst
  | .makeFunc f first cap => match f, first with
    | .func f, ⟨[]⟩ => ok (s.put o.dst (.fn f (cap.toList.map fun x => (sev s x).ar)))
    | _, _ => .stuck
  | .makeSlice t l c => smake P s t (sev s l) (sev s c) o.dst
  | .slice t x lo hi mx => (sslice P s t (sev s x) lo hi mx).put s o.dst
  | .fieldAddr t x f => (sfieldAddr P t (sev s x) f).put s o.dst
  | .field t x f => (sfield P t (sev s x) f).put s o.dst
  | .indexAddr t x i => (sidx P t (sev s x) (sev s i)).put s o.dst
  | .index t x i => (sindex P t (sev s x) (sev s i)).put s o.dst
  | .extract x i => sextract s x i o.dst
  | .pick c x y => spick s (sev s c) (sev s x) (sev s y) o.dst
  | .call c => match c.callee with
    | .builtin b => match b with
      | .len => match c.argTypes, c.args with
        | ⟨[t]⟩, ⟨[x]⟩ => (slen P t (sev s x)).put s o.dst
        | _, _ => .stuck
      | .min => match c.args with
        | ⟨x :: r⟩ => match sfold smin2 (sev s x) (r.map (sev s)) with
          | some v => ok (s.put o.dst v.pl)
          | none => .stuck
        | _ => .stuck
      | .max => match c.args with
        | ⟨x :: r⟩ => match sfold smax2 (sev s x) (r.map (sev s)) with
          | some v => ok (s.put o.dst v.pl)
          | none => .stuck
        | _ => .stuck
      | .append => sappend P s c.argTypes c.args o.dst
      | _ => .stuck
    | _ => scall T s c o.dst
  | _ => .stuck

def isApp (o : Op) : Bool :=
  match o with
  | .call c => match c.callee with
    | .builtin b => match b with
      | .append => true
      | _ => false
    | _ => false
  | _ => false

/-- The same, in a region that draws its order: room is not handed on. -/
def sopD (P : Program) (T : Tab) (o : Oper) (s : St) : Tree :=
  match o.op with
  | .assign x => ok (s.put o.dst (sev s x).pl)
  | .move x => ok (s.put o.dst (sev s x).pn)
  | .load t a => (sload P s t (sev s a)).put s o.dst
  | .box _ x => match sev s x with
    | .agg cs => ok ((s.new (.cells (cs.map SV.st))).put o.dst (.pm s.σ.length 0))
    | c => match c.one with
      | true => ok ((s.new (.cells [c.st])).put o.dst (.pm s.σ.length 0))
      | false => .stuck
  | .store t a x => match o.dst with
    | none => (match sev s x with
      | .agg _ => sstore P s t a x
      | c => match c.loud with
        | false => sstore P s t a x
        | true => match sev s a with
          | .pm id off => match s.σ[id]? with
            | some (.cells cs) => match c.one && decide (tsize P t = some 1) && decide (off < cs.length) with
              | true => ok (s.setC id off cs c.st)
              | false => .stuck
            | _ => .stuck
          | _ => .stuck)
    | some _ => .stuck
  | .extract x i => match sev s x with
    | .tup cs => match cs[i]? with
      | some c => ok (s.put o.dst c.pl)
      | none => .stuck
    | _ => .stuck
  | op => match isApp op with
    | true => .stuck
    | false => sop P T [] o s

/-- The operations of a region, in the order of its text. -/
def srg (P : Program) (T : Tab) (ops : List Oper) : List Oper → St → Tree
  | [], s => ok s
  | o :: rest, s => match o.guard with
    | none => (sop P T rest o s).bind (srg P T ops rest)
    | some (j, want) => match (ops[j]?).bind (·.dst) with
      | some t => match s.get t with
        | .tt => match want with
          | true => (sop P T rest o s).bind (srg P T ops rest)
          | false => srg P T ops rest (s.put o.dst (.tup []))
        | .ff => match want with
          | false => (sop P T rest o s).bind (srg P T ops rest)
          | true => srg P T ops rest (s.put o.dst (.tup []))
        | .tup [] => srg P T ops rest (s.put o.dst (.tup []))
        | .b x => match want with
          | true => .ite x ((sop P T rest o (s.set t .tt)).bind (srg P T ops rest)) (srg P T ops rest ((s.set t .ff).put o.dst (.tup [])))
          | false => .ite x (srg P T ops rest ((s.set t .tt).put o.dst (.tup []))) ((sop P T rest o (s.set t .ff)).bind (srg P T ops rest))
        | _ => .stuck
      | none => .stuck

/-- 'lf': what is loaded must not hang on the state. -/
def sopL (P : Program) (T : Tab) (lf : Bool) (o : Oper) (s : St) : Tree :=
  match lf with
  | false => sopD P T o s
  | true => match o.op with
    | .load t a => match sev s a with
      | .pi g l k off => (sload P s t (.pi g l k off)).put s o.dst
      | _ => .stuck
    | _ => sopD P T o s

def srgD (P : Program) (T : Tab) (lf : Bool) (ops : List Oper) : List Oper → St → Tree
  | [], s => ok s
  | o :: rest, s => match o.guard with
    | none => (sopL P T lf o s).bind (srgD P T lf ops rest)
    | some (j, want) => match (ops[j]?).bind (·.dst) with
      | some t => match s.get t with
        | .tt => match want with
          | true => (sopL P T lf o s).bind (srgD P T lf ops rest)
          | false => srgD P T lf ops rest (s.put o.dst (.tup []))
        | .ff => match want with
          | false => (sopL P T lf o s).bind (srgD P T lf ops rest)
          | true => srgD P T lf ops rest (s.put o.dst (.tup []))
        | .tup [] => srgD P T lf ops rest (s.put o.dst (.tup []))
        | .b x => match want with
          | true => .ite x ((sopL P T lf o (s.set t .tt)).bind (srgD P T lf ops rest)) (srgD P T lf ops rest ((s.set t .ff).put o.dst (.tup [])))
          | false => .ite x (srgD P T lf ops rest ((s.set t .tt).put o.dst (.tup []))) ((sopL P T lf o (s.set t .ff)).bind (srgD P T lf ops rest))
        | _ => .stuck
      | none => .stuck

/-- The first append. -/
def fstApp : List Oper → Nat
  | [] => 0
  | o :: rest => if isApp o.op then 0 else fstApp rest + 1

def allF (ops : List Oper) : List Bool := ops.map fun o => freeC o.op

/-- Which operations may come before or after others; is what is loaded to be told not to hang on the state? -/
def cfOf (ops : List Oper) : List Bool × Bool :=
  match okD ops (befD ops) (noC ops) with
  | true => (noC ops, false)
  | false => match okD ops (befD ops) (allC ops) with
    | true => (allC ops, false)
    | false => (allF ops, true)

def ownL (g : GT) (v : SV) : Option (List g.T) :=
  match v with
  | .nils => some []
  | .sl true g' l => match GT.same g' g with
    | some ⟨h⟩ => some (GT.cast h l)
    | none => none
  | _ => none
def isPin : SV → Bool
  | .pin => true
  | _ => false

/-- Which operation gives this temporary. -/
def dstOf (t : Nat) : List Oper → Option Op
  | [] => none
  | o :: rest => if o.dst = some t then some o.op else dstOf t rest

/-! ### Two ways become one -/
def orU (o : Option SV) : SV :=
  match o with
  | some v => v
  | none => .raw .u

def mergeEnv (c : Bool) (e0 e1 e2 : List SV) : List Nat → List SV
  | [] => e0
  | j :: js => (mergeEnv c e0 e1 e2 js).set j (orU (mergeV c (e1.getD j (.raw .u)) (e2.getD j (.raw .u))))

def mergeC (c : Bool) (cs0 cs1 cs2 : List SV) (id : Nat) : List (Nat × Nat) → List SV
  | [] => cs0
  | p :: js => if p.1 = id then (mergeC c cs0 cs1 cs2 id js).set p.2 (orU (mergeV c (cs1.getD p.2 (.raw .u)) (cs2.getD p.2 (.raw .u)))) else mergeC c cs0 cs1 cs2 id js

def mergeO (c : Bool) (id : Nat) (cl : List (Nat × Nat)) (o0 o1 o2 : SO) : Option SO :=
  match o0, o1, o2 with
  | .cells cs0, .cells cs1, .cells cs2 => some (.cells (mergeC c cs0 cs1 cs2 id cl))
  | .vec g0 l0, .vec g1 l1, .vec g2 l2 => match cl.any fun p => p.1 == id with
    | false => some (.vec g0 l0)
    | true => match GT.same g1 g2 with
      | some ⟨h⟩ => some (.vec g2 (bif c then GT.cast h l1 else l2))
      | none => none
  | _, _, _ => none

def mergeS (c : Bool) (cl : List (Nat × Nat)) : Nat → List SO → List SO → List SO → Option (List SO)
  | _, [], [], [] => some []
  | id, o0 :: r0, o1 :: r1, o2 :: r2 => match mergeO c id cl o0 o1 o2, mergeS c cl (id + 1) r0 r1 r2 with
    | some o, some r => some (o :: r)
    | _, _ => none
  | _, _, _, _ => none

/-- From s0 on, by two ways. -/
def mergeSt (c : Bool) (s0 s1 s2 : St) : Option St :=
  match s1.cl ++ s2.cl with
  | [] => some { env := mergeEnv c s0.env s1.env s2.env (s1.wl ++ s2.wl), σ := s0.σ, wl := s1.wl ++ s2.wl, cl := [] }
  | p :: cl => match mergeS c (p :: cl) 0 s0.σ s1.σ s2.σ with
    | some σ => some { env := mergeEnv c s0.env s1.env s2.env (s1.wl ++ s2.wl), σ := σ, wl := s1.wl ++ s2.wl, cl := p :: cl }
    | none => none

/-- A way that goes on, and what it asks. -/
def nf : Tree → Option (Option Bool × St)
  | .leaf .normal s => some (none, s)
  | .req g t => match nf t with
    | some (none, s) => some (some g, s)
    | some (some g', s) => some (some (g && g'), s)
    | none => none
  | _ => none

def reqO (g : Option Bool) (t : Tree) : Tree :=
  match g with
  | none => t
  | some g => .req g t

def joinG (c : Bool) (g1 g2 : Option Bool) : Option Bool :=
  match g1, g2 with
  | none, none => none
  | some a, none => some (a || !c)
  | none, some b => some (b || c)
  | some a, some b => some (bif c then a else b)

def comp (s0 : St) : Tree → Tree
  | .ite c a b => match nf (comp s0 a), nf (comp s0 b) with
    | some (g1, s1), some (g2, s2) => match mergeSt c s0 s1 s2 with
      | some m => reqO (joinG c g1 g2) (.leaf .normal m)
      | none => .ite c (comp s0 a) (comp s0 b)
    | _, _ => .ite c (comp s0 a) (comp s0 b)
  | .req g t => .req g (comp s0 t)
  | t => t

def St.clear (s : St) : St := { s with wl := [], cl := [] }
/-- What was written before, beside it. -/
def Tree.logs (s0 : St) : Tree → Tree
  | .leaf x s => .leaf x { s with wl := s.wl ++ s0.wl, cl := s.cl ++ s0.cl }
  | .req g t => .req g (t.logs s0)
  | .ite c a b => .ite c (a.logs s0) (b.logs s0)
  | .stuck => .stuck

def mergeT (s0 : St) (f : St → Tree) : Tree := (comp s0.clear (f s0.clear)).logs s0

/-- Loops, and whatever else is told by hand: by the block's number. -/
abbrev Lps := Nat → Option (St → Tree)

/-- What an append is made to: the temporary, and its elements' type. -/
def baseOf (P : Program) (o : Oper) : Option (Nat × GT) :=
  match o.op with
  | .call c => match (c.args[0]? : Option Operand), (c.argTypes[0]? : Option TypeId) with
    | some (.tmp tb), some t => match P.underlying t with
      | some (.slice e) => match gtOf P 20 e with
        | some g => some (tb, g)
        | none => none
      | _ => none
    | _, _ => none
  | _ => none

def addrAt (t : Tree) (ta : Nat) : Option (Nat × Nat) :=
  match nf t with
  | some (_, s1) => match s1.get ta with
    | .pm id off => some (id, off)
    | _ => none
  | none => none

mutual
def SV.noPin : SV → Bool
  | .pin => false
  | .agg cs => SV.noPins cs
  | .tup cs => SV.noPins cs
  | .fn _ cs => SV.noPins cs
  | _ => true
def SV.noPins : List SV → Bool
  | [] => true
  | c :: cs => SV.noPin c && SV.noPins cs
end
def noPinO : List SO → Bool
  | [] => true
  | .cells cs :: r => SV.noPins cs && noPinO r
  | .vec _ _ :: r => noPinO r

/-- What is set aside no longer is looked at no more. -/
def wipe : List Oper → St → St
  | [], s => s
  | o :: r, s => wipe r (match o.dst with
    | some d => match isPin (s.get d) with
      | true => s.set d (.raw .u)
      | false => s
    | none => s)

/-- The operations ahead of an append come in any order; the room of what it is made to is set aside meanwhile. -/
def srgA (P : Program) (T : Tab) (ops : List Oper) (m : Nat) (s : St) : Tree :=
  match SV.noPins s.env && noPinO s.σ with
  | true => match (ops[m]?).bind (baseOf P) with
    | some (tb, g) => match dstOf tb (ops.take m) with
      | some (.move (.tmp t)) => match ownL g (s.get t), decide (t < s.env.length) with
        | some l, true => (srgD P T (cfOf (ops.take m)).2 (ops.take m) (ops.take m) (s.set t .pin)).bind fun s1 => match isPin (s1.get t) && isPin (s1.get tb) && decide (t ≠ tb) with
          | true => srg P T ops (ops.drop m) (wipe (ops.take m) ((s1.set t (.sl false g l)).set tb (.sl true g l)))
          | false => .stuck
        | _, _ => .stuck
      | some (.load _ (.tmp ta)) => match addrAt (srgD P T (cfOf (ops.take m)).2 (ops.take m) (ops.take m) s) ta with
        | some (id, off) => match s.σ[id]? with
          | some (.cells cs) => match cs[off]? with
            | some c => match ownL g c with
              | some l => (srgD P T (cfOf (ops.take m)).2 (ops.take m) (ops.take m) (s.setC id off cs .pin)).bind fun s1 => match s1.σ[id]? with
                | some (.cells cs1) => match isPin (cs1.getD off (.raw .u)) && isPin (s1.get tb) with
                  | true => srg P T ops (ops.drop m) (wipe (ops.take m) ((s1.setC id off cs1 (.sl false g l)).set tb (.sl true g l)))
                  | false => .stuck
                | _ => .stuck
              | none => .stuck
            | none => .stuck
          | _ => .stuck
        | none => .stuck
      | _ => .stuck
    | none => .stuck
  | false => .stuck

/-- A region that draws its order. -/
def srgU (P : Program) (T : Tab) (ops : List Oper) (s : St) : Tree :=
  match ops.any fun o => isApp o.op with
  | true => match okD (ops.take (fstApp ops)) (befD (ops.take (fstApp ops))) (cfOf (ops.take (fstApp ops))).1 && sufOK ops (fstApp ops) with
    | true => srgA P T ops (fstApp ops) s
    | false => .stuck
  | false => match okD ops (befD ops) (cfOf ops).1 with
    | true => srgD P T (cfOf ops).2 ops ops s
    | false => .stuck

/-- A region that moves one value and assigns it. -/
def movedOf : List Oper → Option (Operand × Tmp × Option Tmp)
  | [o1, o2] => match o1.op, o1.dst, o1.guard, o2.op, o2.guard with
    | .move x, some d, none, .assign (.tmp d'), none => match decide (d' = d) with
      | true => some (x, d, o2.dst)
      | false => none
    | _, _, _, _, _ => none
  | _ => none
def srgM (P : Program) (T : Tab) (ops : List Oper) (s : St) : Tree :=
  match movedOf ops with
  | some (x, d, e) => (stake s x (some d)).bind fun s => stake s (.tmp d) e
  | none => srg P T ops ops s

/-- Code is run. -/
def run (P : Program) (T : Tab) (L : Lps) : Code → St → Tree
  | .skip, s => ok s
  | .label _, s => ok s
  | .exit id, s => .leaf (.exit id) s
  | .ret, s => .leaf .ret s
  | .seq a b, s => (run P T L a s).bind (run P T L b)
  | .block id c, s => match L id with
    | some k => k s
    | none => (run P T L c s).block id
  | .scope c, s => run P T L c s
  | .cond x p q, s => match sev s x with
    | .tt => run P T L p s
    | .ff => run P T L q s
    | .b c => mergeT s fun s => .ite c (run P T L p s) (run P T L q s)
    | _ => .stuck
  | .region _ ⟨ops⟩ false, s => mergeT s (srgM P T ops)
  | .region _ ⟨ops⟩ true, s => mergeT s (srgU P T ops)
  | _, _ => .stuck

end Go.Proofs.Ytoofpdmdgofdcaa.X

namespace Go.Proofs.Ytoofpdmdgofdcaa.X
open Go Go.RowKit Go.Proofs.Ytoofpdmdgofdcaa.E
set_option linter.unusedVariables false
set_option linter.unusedSimpArgs false

theorem avs_map (f : Cx) : ∀ cs : List SV, SV.avs f cs = cs.map (SV.av f)
  | [] => rfl
  | c :: cs => by simp only [SV.avs, List.map_cons, avs_map f cs]

theorem avs_len (f : Cx) (cs : List SV) : (SV.avs f cs).length = cs.length := by rw [avs_map, List.length_map]
theorem avs_get (f : Cx) (cs : List SV) (j : Nat) : (SV.avs f cs)[j]? = (cs[j]?).map (SV.av f) := by rw [avs_map, List.getElem?_map]
theorem avs_set (f : Cx) (cs : List SV) (j : Nat) (c : SV) : SV.avs f (cs.set j c) = (SV.avs f cs).set j (c.av f) := by rw [avs_map, avs_map, List.map_set]
theorem avs_app (f : Cx) (cs ds : List SV) : SV.avs f (cs ++ ds) = SV.avs f cs ++ SV.avs f ds := by simp only [avs_map, List.map_append]
theorem avs_take (f : Cx) (cs : List SV) (n : Nat) : SV.avs f (cs.take n) = (SV.avs f cs).take n := by simp only [avs_map, List.map_take]
theorem avs_drop (f : Cx) (cs : List SV) (n : Nat) : SV.avs f (cs.drop n) = (SV.avs f cs).drop n := by simp only [avs_map, List.map_drop]
theorem avs_getD (f : Cx) (cs : List SV) (j : Nat) : (SV.avs f cs).getD j .u = (cs.getD j (.raw .u)).av f := by
  rw [List.getD_eq_getElem?_getD, List.getD_eq_getElem?_getD, avs_get]
  cases cs[j]? <;> rfl

theorem av_pl (f : Cx) (c : SV) : (c.av f).pl = c.pl.av f := by
  cases c with
  | pin => obtain ⟨ff, x⟩ := f; cases x <;> rfl
  | _ => simp only [SV.av, SV.pl, AV.pl]
theorem avs_pl (f : Cx) (cs : List SV) : (SV.avs f cs).map AV.pl = SV.avs f (cs.map SV.pl) := by
  simp only [avs_map, List.map_map]
  exact List.map_congr_left fun c _ => av_pl f c
theorem av_pn (f : Cx) (c : SV) : AV.pn (c.av f) = c.pn.av f := by
  cases c with
  | sl o g l => cases o <;> simp only [SV.av, SV.pl, AV.pl, SV.pn, AV.pn]
  | tup cs => simp only [SV.av, SV.pn, AV.pn, avs_pl]
  | pin => obtain ⟨ff, x⟩ := f; cases x <;> rfl
  | _ => simp only [SV.av, SV.pl, AV.pl, SV.pn, AV.pn]
theorem av_st (f : Cx) (c : SV) : (c.av f).st = c.st.av f := by
  cases c with
  | sl o g l => cases o <;> simp only [SV.av, SV.st, AV.st]
  | pin => obtain ⟨ff, x⟩ := f; cases x <;> rfl
  | _ => simp only [SV.av, SV.st, AV.st]
theorem avs_st (f : Cx) (cs : List SV) : (SV.avs f cs).map AV.st = SV.avs f (cs.map SV.st) := by
  simp only [avs_map, List.map_map]
  exact List.map_congr_left fun c _ => av_st f c
theorem av_ar (f : Cx) (c : SV) : (c.av f).ar = c.ar.av f := by
  cases c with
  | sl o g l => cases o <;> simp only [SV.av, SV.ar, AV.ar, SV.pl, AV.pl]
  | agg cs => simp only [SV.av, SV.ar, AV.ar, avs_pl]
  | pin => obtain ⟨ff, x⟩ := f; cases x <;> rfl
  | _ => simp only [SV.av, SV.ar, AV.ar, SV.pl, AV.pl]
theorem av_one (f : Cx) (c : SV) : E.one (c.av f) = c.one := by
  cases c with
  | pin => obtain ⟨ff, x⟩ := f; cases x <;> rfl
  | _ => simp only [SV.av, SV.one, E.one]
theorem avs_one (f : Cx) (cs : List SV) : (SV.avs f cs).all E.one = cs.all SV.one := by
  rw [avs_map, List.all_map]
  exact congrArg (fun p => cs.all p) (funext fun c => av_one f c)
theorem av_known1 (f : Cx) (c : SV) : E.known1 (c.av f) = c.known1 := by
  cases c with
  | pin => obtain ⟨ff, x⟩ := f; cases x <;> rfl
  | _ => simp only [SV.av, SV.known1, E.known1]
theorem pl_calm {c : SV} (h : c.loud = false) : c.pl = c := by
  cases c with
  | sl o g l => cases o <;> simp [SV.loud] at h; rfl
  | _ => first | rfl | simp [SV.loud] at h

theorem of_u8 {n : Int} (h : (decide (0 ≤ n) && decide (n < 256)) = true) : ((UInt8.ofNat n.toNat).toNat : Int) = n := by
  simp only [Bool.and_eq_true, decide_eq_true_eq] at h
  have : n.toNat < 256 := by omega
  simp only [UInt8.toNat_ofNat']
  omega

theorem ofAV_av (f : Cx) (c : AV) : (ofAV c).av f = c := by
  have key : ∀ c : AV, (match c with
    | .b true => SV.tt
    | .b false => .ff
    | .i .u8 n => if decide (0 ≤ n) && decide (n < 256) then .y (UInt8.ofNat n.toNat) else .raw (.i .u8 n)
    | .i k n => .i k n
    | .s l => .s l
    | .sl .nil 0 [] => .nils
    | c => .raw c).av f = c := by
    intro c
    split
    · rfl
    · rfl
    · split
      · rename_i h
        simp only [SV.av, of_u8 h]
      · rfl
    · rfl
    · rfl
    · rfl
    · rfl
  unfold ofAV
  split
  · rfl
  · rfl
  · split
    · rename_i h
      simp only [SV.av, of_u8 h]
    · rfl
  · rfl
  · rfl
  · rfl
  · rfl
  · rename_i cs
    simp only [SV.av, avs_map, List.map_map]
    congr 1
    conv => rhs; rw [← List.map_id cs]
    exact List.map_congr_left fun c _ => key c
  · rfl
  · rfl

theorem sev_av (f : Cx) (s : St) (x : Operand) : ev G0 (SV.avs f s.env) x = (sev s x).av f := by
  cases x with
  | tmp t => exact avs_getD f s.env t
  | const v => exact (ofAV_av f _).symm
  | global g => rfl
  | func g => rfl

/-! ### Data -/
theorem GT.sv_av (f : Cx) : ∀ (g : GT) (x : g.T), SV.avs f (g.sv x) = g.av x
  | .bool, x => rfl
  | .int k, x => rfl
  | .byte, x => rfl
  | .str, x => rfl
  | .unit, x => rfl
  | .pair a b, x => by simp only [GT.sv, GT.av, avs_app, GT.sv_av f a, GT.sv_av f b]
  | .list a, x => rfl

theorem GT.av_len : ∀ (g : GT) (x : g.T), (g.av x).length = g.sz
  | .bool, x => rfl
  | .int k, x => rfl
  | .byte, x => rfl
  | .str, x => rfl
  | .unit, x => rfl
  | .pair a b, x => by simp only [GT.av, GT.sz, List.length_append, GT.av_len a, GT.av_len b]
  | .list a, x => rfl

theorem GT.sv_len (g : GT) (x : g.T) : (g.sv x).length = g.sz := by
  rw [← avs_len ⟨fun k => k, none⟩, GT.sv_av, GT.av_len]

theorem GT.av_pl : ∀ (g : GT) (x : g.T), (g.av x).map AV.pl = g.av x
  | .bool, x => rfl
  | .int k, x => rfl
  | .byte, x => rfl
  | .str, x => rfl
  | .unit, x => rfl
  | .pair a b, x => by simp only [GT.av, List.map_append, GT.av_pl a, GT.av_pl b]
  | .list a, x => rfl

theorem GT.av_one : ∀ (g : GT) (x : g.T), (g.av x).all E.one = true
  | .bool, x => rfl
  | .int k, x => rfl
  | .byte, x => rfl
  | .str, x => rfl
  | .unit, x => rfl
  | .pair a b, x => by simp only [GT.av, List.all_append, GT.av_one a, GT.av_one b, Bool.and_self]
  | .list a, x => rfl

section
variable (g : GT)
theorem fl_len (l : List g.T) : (l.flatMap g.av).length = l.length * g.sz := by
  induction l with
  | nil => simp
  | cons a l ih => simp only [List.flatMap_cons, List.length_append, ih, GT.av_len, List.length_cons, Nat.succ_mul]; omega
theorem fl_pl (l : List g.T) : (l.flatMap g.av).map AV.pl = l.flatMap g.av := by
  induction l with
  | nil => rfl
  | cons a l ih => simp only [List.flatMap_cons, List.map_append, ih, GT.av_pl]
theorem fl_one (l : List g.T) : (l.flatMap g.av).all E.one = true := by
  induction l with
  | nil => rfl
  | cons a l ih => simp only [List.flatMap_cons, List.all_append, ih, GT.av_one, Bool.and_self]
theorem fl_drop : ∀ (l : List g.T) (k : Nat), (l.flatMap g.av).drop (k * g.sz) = (l.drop k).flatMap g.av
  | [], k => by simp
  | a :: l, 0 => by simp
  | a :: l, k + 1 => by
    have h : (k + 1) * g.sz = (g.av a).length + k * g.sz := by rw [GT.av_len, Nat.succ_mul, Nat.add_comm]
    rw [List.flatMap_cons, h, List.drop_length_add_append, List.drop_succ_cons, fl_drop l k]
theorem fl_take : ∀ (l : List g.T) (k : Nat), (l.flatMap g.av).take (k * g.sz) = (l.take k).flatMap g.av
  | [], k => by simp
  | a :: l, 0 => by simp
  | a :: l, k + 1 => by
    have h : (k + 1) * g.sz = (g.av a).length + k * g.sz := by rw [GT.av_len, Nat.succ_mul, Nat.add_comm]
    rw [List.flatMap_cons, h, List.take_length_add_append, List.take_succ_cons, List.flatMap_cons, fl_take l k]
theorem fl_get {l : List g.T} {k : Nat} (h : k < l.length) (off : Nat) (ho : off < g.sz) : (l.flatMap g.av)[k * g.sz + off]? = (g.av (l.getD k g.dflt))[off]? := by
  have h1 := fl_drop g l k
  have h2 := congrArg (fun z : List AV => z[off]?) h1
  simp only [List.getElem?_drop] at h2
  rw [h2, List.drop_eq_getElem_cons h, List.flatMap_cons, List.getElem?_append_left (by rw [GT.av_len]; exact ho)]
  rw [List.getD_eq_getElem?_getD, List.getElem?_eq_getElem h]
  rfl
theorem fl_cut {l : List g.T} {k : Nat} (h : k < l.length) (off n : Nat) (ho : off + n ≤ g.sz) : ((l.flatMap g.av).drop (k * g.sz + off)).take n = ((g.av (l.getD k g.dflt)).drop off).take n := by
  rw [← List.drop_drop, fl_drop, List.drop_eq_getElem_cons h, List.flatMap_cons, List.getD_eq_getElem?_getD, List.getElem?_eq_getElem h]
  simp only [Option.getD_some]
  rw [List.drop_append_of_le_length (by rw [GT.av_len]; omega), List.take_append_of_le_length (by rw [List.length_drop, GT.av_len]; omega)]
end

theorem GT.cast_fl {a b : GT} (h : a = b) (l : List a.T) : (GT.cast h l).flatMap b.av = l.flatMap a.av := by subst h; rfl
theorem GT.cast_len {a b : GT} (h : a = b) (l : List a.T) : (GT.cast h l).length = l.length := by subst h; rfl
theorem GT.cast_rfl {a : GT} (h : a = a) (l : List a.T) : GT.cast h l = l := rfl

theorem fl_byte (l : List UInt8) : List.flatMap (GT.av .byte) l = encB l := by
  induction l with
  | nil => rfl
  | cons a l ih => simp only [List.flatMap_cons, ih]; rfl

/-- A slice of such. -/
theorem asL_av (f : Cx) {g : GT} {c : SV} {l : List g.T} (h : asL g c = some l) : ∃ o, c.av f = .sl o l.length (l.flatMap g.av) := by
  unfold asL at h
  split at h
  · cases h; exact ⟨_, rfl⟩
  · cases h; exact ⟨_, rfl⟩
  · split at h
    · rename_i o g' l' hh e
      cases h
      exact ⟨_, by simp only [SV.av, GT.cast_fl, GT.cast_len]; rfl⟩
    · cases h
  · cases h

theorem dec_av (f : Cx) : ∀ (g : GT) {cs : List SV} {x : g.T} {r : List SV}, g.dec cs = some (x, r) → (SV.avs f cs).map AV.pl = g.av x ++ (SV.avs f r).map AV.pl
  | .unit, cs, x, r, h => by
    have h : some ((), cs) = some (x, r) := by rw [← h]; cases cs <;> rfl
    cases h
    rfl
  | .pair a b, cs, x, r, h => by
    have h : (match a.dec cs with
      | some (x, r') => match b.dec r' with
        | some (y, r'') => some ((x, y), r'')
        | none => none
      | none => none) = some (x, r) := by rw [← h]; cases cs <;> rfl
    split at h
    · rename_i x1 r1 h1
      split at h
      · rename_i y1 r2 h2
        cases h
        rw [dec_av f a h1, dec_av f b h2, GT.av, List.append_assoc]
      · cases h
    · cases h
  | .bool, [], x, r, h => by cases h
  | .int k, [], x, r, h => by cases h
  | .byte, [], x, r, h => by cases h
  | .str, [], x, r, h => by cases h
  | .list a, [], x, r, h => by cases h
  | .bool, c :: cs, x, r, h => by
    simp only [GT.dec] at h
    split at h <;> first | (cases h; rfl) | cases h
  | .int k, c :: cs, x, r, h => by
    simp only [GT.dec] at h
    split at h
    · split at h
      · rename_i hk
        subst hk
        cases h; rfl
      · cases h
    · cases h
  | .byte, c :: cs, x, r, h => by
    simp only [GT.dec] at h
    split at h <;> first | (cases h; rfl) | cases h
  | .str, c :: cs, x, r, h => by
    simp only [GT.dec] at h
    split at h <;> first | (cases h; rfl) | cases h
  | .list a, c :: cs, x, r, h => by
    simp only [GT.dec] at h
    split at h
    · rename_i l hl
      cases h
      obtain ⟨o, ho⟩ := asL_av f hl
      simp only [SV.avs, List.map_cons, ho, AV.pl, GT.av]
      rfl
    · cases h

theorem decN_av (f : Cx) (g : GT) : ∀ (n : Nat) {cs : List SV} {l : List g.T}, g.decN n cs = some l → (SV.avs f cs).map AV.pl = l.flatMap g.av ∧ l.length = n
  | 0, [], l, h => by cases h; exact ⟨rfl, rfl⟩
  | 0, c :: cs, l, h => by cases h
  | n + 1, cs, l, h => by
    simp only [GT.decN] at h
    split at h
    · rename_i x r h1
      split at h
      · rename_i l' h2
        cases h
        obtain ⟨k1, k2⟩ := decN_av f g n h2
        exact ⟨by rw [dec_av f g h1, k1]; rfl, by simp [k2]⟩
      · cases h
    · cases h

/-! ### Objects -/
/-- The state: 'f' tells the place of each object; 'B' is what was there before. -/
structure SR (f : Cx) (B : AState) (σ : List SO) (S : AState) : Prop where
  obj : ∀ (k : Nat) (o : SO), σ[k]? = some o → S[f k]? = some (o.ao f)
  inj : ∀ i j, f i = f j → i = j
  new : ∀ j, f (σ.length + j) = S.length + j
  old : ∀ i, i < B.length → (∀ k, f k ≠ i) → S[i]? = B[i]?
  len : B.length ≤ S.length

theorem SR.set {f : Cx} {B S : AState} {σ : List SO} (h : SR f B σ S) {k : Nat} (hk : k < σ.length) (o : SO) : SR f B (σ.set k o) (S.set (f k) (o.ao f)) where
  obj := fun j o' hj => by
    by_cases e : k = j
    · subst e
      rw [List.getElem?_set_self hk] at hj
      cases hj
      have := h.obj k _ (List.getElem?_eq_getElem hk)
      exact List.getElem?_set_self (List.getElem?_eq_some_iff.1 this).1
    · rw [List.getElem?_set_ne e] at hj
      rw [List.getElem?_set_ne (fun e' => e (h.inj _ _ e'))]
      exact h.obj j o' hj
  inj := h.inj
  new := fun j => by rw [List.length_set, List.length_set]; exact h.new j
  old := fun i hi hn => by rw [List.getElem?_set_ne (hn k)]; exact h.old i hi hn
  len := by rw [List.length_set]; exact h.len

theorem SR.app {f : Cx} {B S : AState} {σ : List SO} (h : SR f B σ S) (o : SO) : SR f B (σ ++ [o]) (S ++ [o.ao f]) where
  obj := fun j o' hj => by
    rcases Nat.lt_or_ge j σ.length with hlt | hge
    · rw [List.getElem?_append_left hlt] at hj
      have := h.obj j o' hj
      rw [List.getElem?_append_left (List.getElem?_eq_some_iff.1 this).1]
      exact this
    · rw [List.getElem?_append_right hge] at hj
      have e : j = σ.length := by
        rcases Nat.lt_or_ge (j - σ.length) 1 with h1 | h1
        · omega
        · rw [List.getElem?_eq_none (by simpa using h1)] at hj; cases hj
      subst e
      simp at hj
      subst hj
      have := h.new 0
      simp only [Nat.add_zero] at this
      rw [this, List.getElem?_append_right (Nat.le_refl _), Nat.sub_self]
      rfl
  inj := h.inj
  new := fun j => by
    have := h.new (1 + j)
    simp only [List.length_append, List.length_cons, List.length_nil]
    rw [show σ.length + (0 + 1) + j = σ.length + (1 + j) by omega, this]
    omega
  old := fun i hi hn => by rw [List.getElem?_append_left (Nat.lt_of_lt_of_le hi h.len)]; exact h.old i hi hn
  len := by rw [List.length_append]; exact Nat.le_trans h.len (Nat.le_add_right _ _)

theorem SR.fresh {f : Cx} {B S : AState} {σ : List SO} (h : SR f B σ S) : f σ.length = S.length := by simpa using h.new 0

theorem SR.cells {f : Cx} {B S : AState} {σ : List SO} (h : SR f B σ S) {k : Nat} {cs : List SV} (hk : σ[k]? = some (.cells cs)) : S[f k]? = some (.cells (SV.avs f cs)) := h.obj k _ hk
theorem SR.vec {f : Cx} {B S : AState} {σ : List SO} (h : SR f B σ S) {k : Nat} {g : GT} {l : List g.T} (hk : σ[k]? = some (.vec g l)) : S[f k]? = some (.cells (List.flatMap g.av l)) := h.obj k _ hk
end Go.Proofs.Ytoofpdmdgofdcaa.X

namespace Go.Proofs.Ytoofpdmdgofdcaa.X
open Go Go.RowKit Go.Proofs.Ytoofpdmdgofdcaa.E
set_option linter.unusedVariables false
set_option linter.unusedSimpArgs false

variable {P : Program} {f : Cx} {KK : AV → Prop}

/-- What a result asks. -/
def vr (f : Cx) (r : VR) (KK : AV → Prop) : Prop :=
  match r with
  | .no => False
  | .val v => KK (v.av f)
  | .req g v => g = true ∧ KK (v.av f)

theorem wrap_u8 (n : Int) : IntKind.u8.wrap n = n % 256 := by
  simp [IntKind.wrap, IntKind.bits, IntKind.signed]

theorem sint_ok {op : BinOp} {k k' : IntKind} {x y : Int} (h : vr f (sint op k x k' y) KK) : aint op k x k' y KK := by
  unfold sint at h
  split at h
  · simp only [vr, Bool.and_eq_true, decide_eq_true_eq, SV.av] at h
    exact ⟨h.1.1, by rw [wrap_id h.1.2]; exact h.2⟩
  · simp only [vr, decide_eq_true_eq, SV.av] at h
    exact h
  · split at h
    · rename_i hk
      subst hk
      split at h <;> simp only [vr, Bool.and_eq_true, decide_eq_true_eq, SV.av, Bool.not_eq_true', beq_eq_false_iff_ne] at h <;> simp only [aint]
      · exact ⟨trivial, by rw [wrap_id h.1]; exact h.2⟩
      · exact ⟨trivial, by rw [wrap_id h.1]; exact h.2⟩
      · exact ⟨trivial, by rw [wrap_id h.1]; exact h.2⟩
      · exact ⟨trivial, h.1.1, by rw [wrap_id h.1.2]; exact h.2⟩
      · exact ⟨trivial, h.1, h.2⟩
      · exact ⟨trivial, h⟩
      · exact ⟨trivial, h⟩
      · exact ⟨trivial, h⟩
      · exact ⟨trivial, h⟩
      · exact ⟨trivial, h⟩
      · exact ⟨trivial, h⟩
      · exact ⟨trivial, h⟩
      · exact ⟨trivial, h⟩
      · exact ⟨trivial, h⟩
      · exact ⟨trivial, h⟩
    · cases h

theorem beq_u8 (x y : UInt8) : ((x.toNat : Int) == (y.toNat : Int)) = (x == y) := by
  by_cases h : x = y
  · subst h; simp
  · have h1 : ¬ x.toNat = y.toNat := fun e => h (UInt8.toNat_inj.1 e)
    have h2 : ((x.toNat : Int) == (y.toNat : Int)) = false := by rw [beq_eq_false_iff_ne]; omega
    have h3 : (x == y) = false := by simpa using h
    rw [h2, h3]

theorem sbyte_ok {op : BinOp} {x y : UInt8} (h : vr f (sbyte op x y) KK) : aint op .u8 (x.toNat : Int) .u8 (y.toNat : Int) KK := by
  have hx := x.toNat_lt
  have hy := y.toNat_lt
  unfold sbyte at h
  split at h <;> simp only [vr, Bool.and_eq_true, decide_eq_true_eq, SV.av, Bool.not_eq_true', beq_eq_false_iff_ne] at h <;> simp only [aint]
  · refine ⟨trivial, ?_⟩
    rw [wrap_u8, show ((x.toNat : Int) + (y.toNat : Int)) % 256 = ((x + y).toNat : Int) by rw [UInt8.toNat_add]; omega]
    exact h
  · refine ⟨trivial, ?_⟩
    rw [wrap_u8, show ((x.toNat : Int) - (y.toNat : Int)) % 256 = ((x - y).toNat : Int) by rw [UInt8.toNat_sub]; omega]
    exact h
  · refine ⟨trivial, ?_⟩
    rw [wrap_u8, show ((x.toNat : Int) * (y.toNat : Int)) % 256 = ((x * y).toNat : Int) by rw [UInt8.toNat_mul]; simp]
    exact h
  · have hy0 : ¬ (y.toNat : Int) = 0 := fun e => h.1 (UInt8.toNat_inj.1 (by simpa using e))
    refine ⟨trivial, hy0, ?_⟩
    have hd : x.toNat / y.toNat ≤ x.toNat := Nat.div_le_self _ _
    rw [wrap_u8, Int.tdiv_eq_ediv_of_nonneg (by omega), show ((x.toNat : Int) / (y.toNat : Int)) = ((x.toNat / y.toNat : Nat) : Int) from rfl, show ((x.toNat / y.toNat : Nat) : Int) % 256 = ((x / y).toNat : Int) by rw [UInt8.toNat_div]; generalize x.toNat / y.toNat = z at hd; omega]
    exact h.2
  · have hy0 : ¬ (y.toNat : Int) = 0 := fun e => h.1 (UInt8.toNat_inj.1 (by simpa using e))
    refine ⟨trivial, hy0, ?_⟩
    rw [Int.tmod_eq_emod_of_nonneg (by omega), show ((x.toNat : Int) % (y.toNat : Int)) = ((x.toNat % y.toNat : Nat) : Int) from rfl, ← UInt8.toNat_mod]
    exact h.2
  · exact ⟨trivial, by rw [beq_u8]; exact h⟩
  · exact ⟨trivial, by rw [bne, beq_u8]; exact h⟩
  · exact ⟨trivial, by rw [show decide ((x.toNat : Int) < (y.toNat : Int)) = decide (x < y) from decide_eq_decide.2 (by rw [UInt8.lt_iff_toNat_lt]; omega)]; exact h⟩
  · exact ⟨trivial, by rw [show decide ((x.toNat : Int) ≤ (y.toNat : Int)) = decide (x ≤ y) from decide_eq_decide.2 (by rw [UInt8.le_iff_toNat_le]; omega)]; exact h⟩
  · exact ⟨trivial, by rw [show decide ((y.toNat : Int) < (x.toNat : Int)) = decide (y < x) from decide_eq_decide.2 (by rw [UInt8.lt_iff_toNat_lt]; omega)]; exact h⟩
  · exact ⟨trivial, by rw [show decide ((y.toNat : Int) ≤ (x.toNat : Int)) = decide (y ≤ x) from decide_eq_decide.2 (by rw [UInt8.le_iff_toNat_le]; omega)]; exact h⟩

theorem sstr_ok {op : BinOp} {x y : List UInt8} (h : vr f (sstr op x y) KK) : astr op x y KK := by
  unfold sstr at h
  split at h <;> simp only [vr, decide_eq_true_eq, SV.av] at h <;> simp only [astr]
  all_goals exact h

theorem isB_av {c : SV} {x : Bool} (h : isB c = some x) : c.av f = .b x := by
  unfold isB at h
  split at h <;> first | (cases h; rfl) | cases h

theorem seqF_av : ∀ (fs : List Field) (cs ds : List SV) (r : Bool), seqF P fs cs ds = some r → eqFA P fs (SV.avs f cs) (SV.avs f ds) = some r
  | [], [], [], r, h => h
  | [], [], _ :: _, r, h => by simp [seqF] at h
  | [], _ :: _, _, r, h => by simp [seqF] at h
  | _ :: _, [], _, r, h => by simp [seqF] at h
  | _ :: _, _ :: _, [], r, h => by simp [seqF] at h
  | fd :: fs, c :: cs, d :: ds, r, h => by
    simp only [seqF] at h
    simp only [SV.avs, eqFA]
    split at h
    · rename_i u hu
      split at h
      · rename_i k x k' y
        split at h
        · rename_i hk
          subst hk
          simp only [andK, Option.map_eq_some_iff] at h
          obtain ⟨z, hz, rfl⟩ := h
          rw [hu]
          simp only [SV.av, if_true, andK, seqF_av fs cs ds z hz, Option.map_some]
        · cases h
      · rename_i x y
        simp only [andK, Option.map_eq_some_iff] at h
        obtain ⟨z, hz, rfl⟩ := h
        rw [hu]
        simp only [SV.av, if_true, andK, seqF_av fs cs ds z hz, Option.map_some, beq_u8]
      · cases h
    · rename_i hu
      split at h
      · rename_i x y
        simp only [andK, Option.map_eq_some_iff] at h
        obtain ⟨z, hz, rfl⟩ := h
        rw [hu]
        simp only [SV.av, andK, seqF_av fs cs ds z hz, Option.map_some]
      · cases h
    · rename_i hu
      split at h
      · rename_i x y hx hy
        simp only [andK, Option.map_eq_some_iff] at h
        obtain ⟨z, hz, rfl⟩ := h
        rw [hu, isB_av hx, isB_av hy]
        simp only [andK, seqF_av fs cs ds z hz, Option.map_some]
      · cases h
    · cases h

theorem saggEq_ok {op : BinOp} {t : TypeId} {cs ds : List SV} (h : vr f (saggEq P op t cs ds) KK) : aaggEq P op t (SV.avs f cs) (SV.avs f ds) KK := by
  unfold saggEq at h
  split at h
  · rename_i fs hu
    split at h
    · rename_i hf
      split at h
      · rename_i r hr
        have := seqF_av (f := f) _ _ _ _ hr
        unfold aaggEq
        rw [hu]
        split at h
        · exact ⟨hf, r, this, h⟩
        · exact ⟨hf, r, this, h⟩
        · cases h
      · cases h
    · cases h
  · cases h

theorem sbool_ok {op : BinOp} {t : TypeId} {x y : Bool} (h : vr f (sbool P op t x y) KK) : abin P op t (.b x) (.b y) KK := by
  unfold sbool at h
  split at h
  · rename_i hu
    have he : eqT P t (.b x) (.b y) = true := by unfold eqT; rw [hu]
    split at h
    · exact ⟨he, _, rfl, h⟩
    · exact ⟨he, _, rfl, h⟩
    · cases h
  · cases h

theorem sbin_ok {op : BinOp} {t : TypeId} {x y : SV} (h : vr f (sbin P op t x y) KK) : abin P op t (x.av f) (y.av f) KK := by
  unfold sbin at h
  split at h
  · exact sint_ok h
  · exact sbyte_ok h
  · exact sstr_ok h
  · exact saggEq_ok h
  · split at h
    · rename_i x' y' hx hy
      rw [isB_av hx, isB_av hy]
      exact sbool_ok h
    · cases h

theorem sun_ok {op : UnOp} {x : SV} (h : vr f (sun op x) KK) : aun op (x.av f) KK := by
  unfold sun at h
  split at h
  · exact h
  · exact h
  · exact h
  · simp only [vr] at h
    simp only [SV.av, aun, wrap_id h.1]
    exact h.2
  · cases h

theorem wrap_nat {k : IntKind} (hk : k ≠ .i8) (x : UInt8) : k.wrap (x.toNat : Int) = (x.toNat : Int) := by
  have := x.toNat_lt
  apply wrap_id
  cases k <;> simp [inRb] <;> first | omega | exact absurd rfl hk

theorem asL_bytes {c : SV} {l : List UInt8} (h : asL .byte c = some l) : ∃ o, c.av f = .sl o l.length (encB l) := by
  obtain ⟨o, ho⟩ := asL_av f h
  exact ⟨o, by rw [ho, fl_byte]⟩

theorem encB_len (l : List UInt8) : (encB l).length = l.length := by simp [encB]

theorem scnv_ok {src dst : TypeId} {x : SV} (h : vr f (scnv P src dst x) KK) : abytes P src dst (x.av f) KK := by
  unfold scnv at h
  unfold abytes
  split at h
  · rename_i d k hs hd
    rw [hs, hd]
    simp only [acnv, hs, hd]
    split at h
    · rename_i n
      split at h
      · simp only [vr, SV.av] at h ⊢
        rw [wrap_u8]
        have e : ((UInt8.ofNat (n % 256).toNat).toNat : Int) = n % 256 := of_u8 (by simp; omega)
        rw [e] at h
        exact h
      · simp only [vr, SV.av] at h ⊢
        rw [wrap_id h.1]
        exact h.2
    · split at h
      · rename_i x
        simp only [vr, SV.av] at h ⊢
        rw [wrap_nat (by simp)]
        exact h
      · cases h
      · rename_i x h1 h2
        simp only [vr, SV.av] at h ⊢
        rw [wrap_nat h2]
        exact h
    · cases h
  · rename_i d hs hd
    rw [hs, hd]
    simp only [acnv, hs, hd]
    split at h
    · exact h
    · split at h
      · rename_i e
        split at h
        · rename_i he
          split at h
          · rename_i l hl
            obtain ⟨o, ho⟩ := asL_bytes (f := f) hl
            rw [ho]
            simp only [vr, decide_eq_true_eq, SV.av] at h
            exact ⟨he, by rw [encB_len]; exact Nat.le_refl _, l, by rw [List.take_of_length_le (by rw [encB_len]; exact Nat.le_refl _)]; exact unB_encB l, h.1, h.2⟩
          · cases h
        · cases h
      · cases h
  · rename_i d e hs hd
    rw [hs, hd]
    split at h
    · split at h
      · rename_i l he
        simp only [vr, decide_eq_true_eq, SV.av] at h
        exact ⟨he, h.1, by rw [← fl_byte]; exact h.2⟩
      · cases h
    · cases h
  · cases h

theorem sindex_ok {t : TypeId} {x ix : SV} (h : vr f (sindex P t x ix) KK) : aindex P t (x.av f) (ix.av f) KK := by
  unfold sindex at h
  unfold aindex
  split at h
  · split at h
    · rename_i hu
      simp only [SV.av]
      rw [hu]
      split at h
      · simp only [vr, Bool.and_eq_true, decide_eq_true_eq, SV.av] at h
        exact h
      · cases h
    · cases h
  · split at h
    · rename_i hu
      simp only [SV.av]
      rw [hu]
      split at h
      · simp only [vr, Bool.and_eq_true, decide_eq_true_eq, SV.av] at h
        exact ⟨⟨by omega, by omega⟩, by rw [Int.toNat_natCast]; exact h.2⟩
      · cases h
    · cases h
  · cases h

theorem sidxL_ok {t e : TypeId} {x : SV} {k : IntKind} {i : Int} (hu : P.underlying t = some (.slice e)) (h : vr f (sidxL P e x i) KK) : aidx P t (x.av f) (.i k i) KK := by
  unfold sidxL at h
  unfold aidx
  simp only [hu]
  split at h
  · rename_i o g l
    split at h
    · rename_i sz hz
      split at h
      · rename_i hsz
        simp only [vr, Bool.and_eq_true, decide_eq_true_eq, SV.av] at h
        simp only [hz, SV.av]
        exact ⟨h.1, by rw [hsz]; exact h.2⟩
      · cases h
    · cases h
  · split at h
    · rename_i sz hz
      split at h
      · rename_i hsz
        simp only [vr, Bool.and_eq_true, decide_eq_true_eq, SV.av] at h
        simp only [hz, SV.av]
        exact ⟨h.1, by rw [hsz, Nat.zero_add]; exact h.2⟩
      · cases h
    · cases h
  · cases h

theorem sidx_ok {t : TypeId} {x ix : SV} (h : vr f (sidx P t x ix) KK) : aidx P t (x.av f) (ix.av f) KK := by
  unfold sidx at h
  split at h
  · rename_i e hu
    split at h
    · exact sidxL_ok hu h
    · exact sidxL_ok hu h
    · cases h
  · cases h

theorem soff_ok {x : SV} {n : Nat} (h : vr f (soff x n) KK) : aoff (x.av f) n KK := by
  unfold soff at h
  split at h
  · simp only [vr, SV.av, ← Nat.add_assoc] at h
    exact h
  · exact h
  · simp only [vr, SV.av, ← Nat.add_assoc] at h
    exact h
  · cases h

theorem sfieldAddr_ok {t : TypeId} {x : SV} {n : Nat} (h : vr f (sfieldAddr P t x n) KK) : afieldAddr P t (x.av f) n KK := by
  unfold sfieldAddr at h
  unfold afieldAddr
  split at h
  · rename_i fs hu
    rw [hu]
    split at h
    · rename_i fd hf
      simp only [hf]
      split at h
      · rename_i m hm
        simp only [hm]
        split at h
        · cases h
        · rename_i hn
          exact ⟨hn, soff_ok h⟩
      · cases h
    · cases h
  · cases h

theorem sfield_ok {t : TypeId} {x : SV} {n : Nat} (h : vr f (sfield P t x n) KK) : afield P t (x.av f) n KK := by
  unfold sfield at h
  unfold afield
  split at h
  · rename_i fs hu
    rw [hu]
    split at h
    · rename_i fd hf
      simp only [hf]
      split at h
      · rename_i cs
        simp only [SV.av, apart]
        split at h
        · rename_i d hd
          simp only [hd]
          split at h
          · rename_i ha
            simp only [ha, if_true]
            split at h
            · rename_i m hm
              simp only [hm]
              simp only [vr, SV.av, avs_take, avs_drop] at h
              exact h
            · cases h
          · rename_i ha
            simp only [ha, if_false]
            split at h
            · rename_i c hc
              simp only [vr] at h
              exact ⟨c.av f, by rw [avs_get, hc]; rfl, by rw [plK, av_pl]; exact h⟩
            · cases h
        · cases h
      · cases h
    · cases h
  · cases h
end Go.Proofs.Ytoofpdmdgofdcaa.X

namespace Go.Proofs.Ytoofpdmdgofdcaa.X
open Go Go.RowKit Go.Proofs.Ytoofpdmdgofdcaa.E
set_option linter.unusedVariables false
set_option linter.unusedSimpArgs false

variable {P : Program} {f : Cx} {KK : AV → Prop} {B S : AState} {s : St}

theorem den_mono {t : Tree} {Q Q' : SX → St → Prop} (h : den t Q) (hq : ∀ x s, Q x s → Q' x s) : den t Q' := by
  induction t with
  | stuck => exact h
  | leaf x s => exact hq x s h
  | req g t ih => exact ⟨h.1, ih h.2⟩
  | ite c a b iha ihb => exact ⟨fun e => iha (h.1 e), fun e => ihb (h.2 e)⟩

/-- What is asked of a piece that goes on. -/
def KD (f : Cx) (B : AState) (K : AEnv → AState → Prop) : SX → St → Prop := fun x s' => x = .normal ∧ ∀ S', SR f B s'.σ S' → K (SV.avs f s'.env) S'

theorem avs_put (f : Cx) (s : St) (d : Option Tmp) (v : SV) : SV.avs f (s.put d v).env = aput (SV.avs f s.env) d (v.av f) := by
  cases d with
  | none => rfl
  | some d => exact avs_set f s.env d v
theorem put_σ (s : St) (d : Option Tmp) (v : SV) : (s.put d v).σ = s.σ := by cases d <;> rfl

theorem ok_den {K : AEnv → AState → Prop} {s' : St} (h : den (ok s') (KD f B K)) {S' : AState} (hs : SR f B s'.σ S') : K (SV.avs f s'.env) S' := h.2 S' hs

theorem put_vr {K : AEnv → AState → Prop} {r : VR} {d : Option Tmp} (hs : SR f B s.σ S) (h : den (r.put s d) (KD f B K)) : vr f r (Kv K (SV.avs f s.env) S d) := by
  cases r with
  | no => exact h
  | val v =>
    have := ok_den h (S' := S) (by rw [put_σ]; exact hs)
    rw [avs_put] at this
    exact this
  | req g v =>
    have := ok_den h.2 (S' := S) (by rw [put_σ]; exact hs)
    rw [avs_put] at this
    exact ⟨h.1, this⟩

/-! ### Reading -/
theorem readC_pi {g : GT} {l : List g.T} {k : Nat} (hk : k < l.length) (off : Nat) (ho : off < g.sz) (S : AState) : readC S (.pi (l.flatMap g.av) (k * g.sz + off)) = (g.av (l.getD k g.dflt))[off]? := fl_get g hk off ho

theorem readN_cut {S : AState} {x : AV} {cs : List AV} {off : Nat} (h : ∀ j, j < cs.length → readC S (match x with | .pi cs k => .pi cs (k + j) | .pm id o => .pm id (o + j) | x => x) = cs[j]?) (hx : (∃ a b, x = .pi a b) ∨ ∃ a b, x = .pm a b) :
    ∀ n, n ≤ cs.length → readN S x n = some (cs.take n)
  | 0, _ => by simp [readN]
  | n + 1, hn => by
    have ih := readN_cut (off := off) h hx n (by omega)
    have h1 := h n (by omega)
    have h2 : cs[n]? = some cs[n] := List.getElem?_eq_getElem (by omega)
    simp only [readN, ih]
    rcases hx with ⟨a, b, rfl⟩ | ⟨a, b, rfl⟩ <;> simp only at h1 ⊢ <;> rw [h1, h2] <;> simp only [List.take_add_one, h2, Option.toList_some]

/-- What is read, and what is asked for it. -/
theorem sread_ok (hs : SR f B s.σ S) {x : SV} {n : Nat} {g : Option Bool} {cs : List SV} (h : sread s x n = some (g, cs)) (hg : ∀ b, g = some b → b = true) : readN S (x.av f) n = some (SV.avs f cs) ∧ cs.length = n ∧ (n = 1 → ∀ c, cs = [c] → readC S (x.av f) = some (c.av f)) := by
  have one : ∀ (y : AV), readN S y 1 = some (SV.avs f cs) → ((∃ a b, y = .pi a b) ∨ ∃ a b, y = .pm a b) → ∀ c, cs = [c] → readC S y = some (c.av f) := by
    intro y hy hyy c hc
    subst hc
    simp only [readN] at hy
    rcases hyy with ⟨a, b, rfl⟩ | ⟨a, b, rfl⟩ <;> simp only [Nat.add_zero] at hy <;> (split at hy <;> first | (cases hy; done) | skip) <;> (rename_i c' hc'; simp only [List.nil_append, Option.some.injEq, SV.avs, List.cons.injEq, and_true] at hy; rw [← hy]; exact hc')
  unfold sread at h
  split at h
  · rename_i gt l k off
    split at h
    · rename_i ho
      rw [decide_eq_true_eq] at ho
      cases h
      have hk := hg _ rfl
      rw [decide_eq_true_eq] at hk
      have hlen : (((gt.sv (l.getD k gt.dflt)).drop off).take n).length = n := by rw [List.length_take, List.length_drop, GT.sv_len]; omega
      have key : readN S (SV.av f (.pi gt l k off)) n = some (SV.avs f (((gt.sv (l.getD k gt.dflt)).drop off).take n)) := by
        have h1 := readN_cut (S := S) (x := .pi (l.flatMap gt.av) (k * gt.sz + off)) (cs := SV.avs f (((gt.sv (l.getD k gt.dflt)).drop off).take n)) (off := off) (fun j hj => by
          rw [avs_len, hlen] at hj
          simp only [Nat.add_assoc]
          rw [readC_pi hk (off + j) (by omega), avs_take, avs_drop, GT.sv_av, List.getElem?_take_of_lt hj, List.getElem?_drop]) (.inl ⟨_, _, rfl⟩) n (by rw [avs_len, hlen]; exact Nat.le_refl _)
        rw [List.take_of_length_le (by rw [avs_len, hlen]; exact Nat.le_refl _)] at h1
        exact h1
      refine ⟨key, hlen, fun e => ?_⟩
      subst e
      exact one _ key (.inl ⟨_, _, rfl⟩)
    · cases h
  · rename_i id off
    split at h
    · rename_i cs0 hc
      split at h
      · rename_i ho
        rw [decide_eq_true_eq] at ho
        cases h
        have hlen : ((cs0.drop off).take n).length = n := by rw [List.length_take, List.length_drop]; omega
        have hobj := hs.cells hc
        have key : readN S (SV.av f (.pm id off)) n = some (SV.avs f ((cs0.drop off).take n)) := by
          have h1 := readN_cut (S := S) (x := .pm (f id) off) (cs := SV.avs f ((cs0.drop off).take n)) (off := off) (fun j hj => by
            rw [avs_len, hlen] at hj
            simp only [readC, hobj]
            rw [avs_take, avs_drop, List.getElem?_take_of_lt hj, List.getElem?_drop]) (.inr ⟨_, _, rfl⟩) n (by rw [avs_len, hlen]; exact Nat.le_refl _)
          rw [List.take_of_length_le (by rw [avs_len, hlen]; exact Nat.le_refl _)] at h1
          exact h1
        refine ⟨key, hlen, fun e => ?_⟩
        subst e
        exact one _ key (.inr ⟨_, _, rfl⟩)
      · cases h
    · cases h
  · rename_i z id k off
    split at h
    · rename_i gt l hc
      split at h
      · rename_i ho
        rw [Bool.and_eq_true, decide_eq_true_eq, decide_eq_true_eq] at ho
        obtain ⟨ho, rfl⟩ := ho
        cases h
        have hk := hg _ rfl
        rw [decide_eq_true_eq] at hk
        have hlen : (((gt.sv (l.getD k gt.dflt)).drop off).take n).length = n := by rw [List.length_take, List.length_drop, GT.sv_len]; omega
        have hobj := hs.vec hc
        have key : readN S (SV.av f (.pv gt.sz id k off)) n = some (SV.avs f (((gt.sv (l.getD k gt.dflt)).drop off).take n)) := by
          have h1 := readN_cut (S := S) (x := .pm (f id) (k * gt.sz + off)) (cs := SV.avs f (((gt.sv (l.getD k gt.dflt)).drop off).take n)) (off := off) (fun j hj => by
            rw [avs_len, hlen] at hj
            simp only [readC, hobj, Nat.add_assoc]
            rw [fl_get gt hk (off + j) (by omega), avs_take, avs_drop, GT.sv_av, List.getElem?_take_of_lt hj, List.getElem?_drop]) (.inr ⟨_, _, rfl⟩) n (by rw [avs_len, hlen]; exact Nat.le_refl _)
          rw [List.take_of_length_le (by rw [avs_len, hlen]; exact Nat.le_refl _)] at h1
          exact h1
        refine ⟨key, hlen, fun e => ?_⟩
        subst e
        exact one _ key (.inr ⟨_, _, rfl⟩)
      · cases h
    · cases h
  · cases h

theorem sread_pi {S : AState} {gt : GT} {l : List gt.T} {k off n : Nat} {g : Option Bool} {cs : List SV} (h : sread s (.pi gt l k off) n = some (g, cs)) (hg : ∀ b, g = some b → b = true) : readN S (SV.av f (.pi gt l k off)) n = some (SV.avs f cs) ∧ (n = 1 → ∀ c, cs = [c] → readC S (SV.av f (.pi gt l k off)) = some (c.av f)) := by
  have hs0 : SR ⟨fun k => S.length + k, f.x⟩ S [] S := ⟨fun k o h => by simp at h, fun i j e => by simpa using e, fun j => by simp, fun i _ _ => rfl, Nat.le_refl _⟩
  have h' : sread ⟨[], [], [], []⟩ (.pi gt l k off) n = some (g, cs) := h
  obtain ⟨h1, h2, h3⟩ := sread_ok (s := ⟨[], [], [], []⟩) (f := ⟨fun k => S.length + k, f.x⟩) hs0 h' hg
  have e : ∀ f' : Cx, SV.avs f' cs = SV.avs f cs := fun f' => by
    simp only [sread] at h
    split at h
    · cases h
      rw [avs_take, avs_take, avs_drop, avs_drop, GT.sv_av, GT.sv_av]
    · cases h
  refine ⟨by rw [← e]; exact h1, fun hn c hc => ?_⟩
  have h4 := h3 hn c hc
  subst hc
  have := e ⟨fun k => S.length + k, f.x⟩
  simp only [SV.avs, List.cons.injEq, and_true] at this
  rw [← this]
  exact h4

theorem vreq_vr {g : Option Bool} {v : SV} (h : vr f (vreq g v) KK) : (∀ b, g = some b → b = true) ∧ KK (v.av f) := by
  cases g with
  | none => exact ⟨fun b e => (by cases e), h⟩
  | some g => exact ⟨fun b e => by cases e; exact h.1, h.2⟩

theorem sload_ok (hs : SR f B s.σ S) {t : TypeId} {x : SV} (h : vr f (sload P s t x) KK) : aload P S t (x.av f) KK := by
  unfold sload at h
  unfold aload
  split at h
  · rename_i d hu
    simp only [hu]
    split at h
    · rename_i ha
      simp only [ha, if_true]
      split at h
      · rename_i n hn
        simp only [hn]
        split at h
        · cases h
        · rename_i h0
          split at h
          · rename_i g cs hr
            obtain ⟨h1, h2⟩ := vreq_vr h
            refine ⟨h0, _, (sread_ok hs hr h1).1, ?_⟩
            simp only [aggK, avs_pl]
            exact h2
          · cases h
      · cases h
    · rename_i ha
      simp only [ha, if_false]
      split at h
      · rename_i g c hr
        obtain ⟨h1, h2⟩ := vreq_vr h
        exact ⟨_, (sread_ok hs hr h1).2.2 rfl c rfl, by rw [plK, av_pl]; exact h2⟩
      · cases h
  · cases h

theorem sload_pi {S : AState} {t : TypeId} {gt : GT} {l : List gt.T} {k off : Nat} (h : vr f (sload P s t (.pi gt l k off)) KK) : aload P S t (SV.av f (.pi gt l k off)) KK := by
  unfold sload at h
  unfold aload
  split at h
  · rename_i d hu
    simp only [hu]
    split at h
    · rename_i ha
      simp only [ha, if_true]
      split at h
      · rename_i n hn
        simp only [hn]
        split at h
        · cases h
        · rename_i h0
          split at h
          · rename_i g cs hr
            obtain ⟨h1, h2⟩ := vreq_vr h
            refine ⟨h0, _, (sread_pi hr h1).1, ?_⟩
            simp only [aggK, avs_pl]
            exact h2
          · cases h
      · cases h
    · rename_i ha
      simp only [ha, if_false]
      split at h
      · rename_i g c hr
        obtain ⟨h1, h2⟩ := vreq_vr h
        exact ⟨_, (sread_pi hr h1).2 rfl c rfl, by rw [plK, av_pl]; exact h2⟩
      · cases h
  · cases h

/-! ### Slices of slices, and lengths -/
theorem sbnd_ok {x : Option Operand} {d n : Int} (h : sbnd s x d = some n) : bnd (x.map (ev G0 (SV.avs f s.env))) d = some n := by
  unfold sbnd at h
  split at h
  · cases h; rfl
  · rename_i x
    simp only [Option.map_some, sev_av]
    split at h
    · rename_i k m e
      cases h
      rw [e]; rfl
    · rename_i b e
      cases h
      rw [e]; rfl
    · cases h

theorem sslice_ok {t : TypeId} {x : SV} {lo hi mx : Option Operand} (h : vr f (sslice P s t x lo hi mx) KK) :
    aslice P t (x.av f) (lo.map (ev G0 (SV.avs f s.env))) (hi.map (ev G0 (SV.avs f s.env))) (mx.map (ev G0 (SV.avs f s.env))) KK := by
  unfold sslice at h
  unfold aslice
  split at h
  · cases h
  · simp only [Option.map_none]
    split at h
    · cases h
    · rename_i l hl
      rw [sbnd_ok hl]
      simp only
      split at h
      · rename_i hu
        simp only [hu]
        split at h
        · rename_i a
          split at h
          · rename_i hh hb
            simp only [SV.av, sbnd_ok hb, aslice2]
            simp only [vr, Bool.and_eq_true, decide_eq_true_eq, SV.av] at h
            exact ⟨⟨h.1.1.1, h.1.1.2, h.1.2⟩, h.2⟩
          · cases h
        · cases h
      · rename_i e hu
        simp only [hu]
        split at h
        · rename_i o g a
          split at h
          · rename_i sz hz
            split at h
            · rename_i hsz
              subst hsz
              split at h
              · rename_i hh hb
                simp only [SV.av, hz, sbnd_ok hb, aslice2]
                simp only [vr, Bool.and_eq_true, decide_eq_true_eq, SV.av] at h
                obtain ⟨⟨⟨h1, h2⟩, h3⟩, h4⟩ := h
                refine ⟨⟨h1, h2, h3⟩, ?_⟩
                have e2 : (List.drop l.toNat (List.take hh.toNat a)).length = hh.toNat - l.toNat := by rw [List.length_drop, List.length_take]; omega
                have e3 : List.flatMap g.av (List.drop l.toNat (List.take hh.toNat a)) = List.take ((hh.toNat - l.toNat) * g.sz) (List.drop (l.toNat * g.sz) (List.flatMap g.av a)) := by
                  rw [fl_drop, fl_take, List.drop_take]
                rw [e2, e3] at h4
                cases o <;> exact h4
              · cases h
            · cases h
          · cases h
        · cases h
      · cases h

theorem slen_ok {t : TypeId} {x : SV} (h : vr f (slen P t x) KK) : alenB P S t (x.av f) KK := by
  unfold slen at h
  unfold alenB
  split at h
  · rename_i hu; rw [hu]; exact h
  · rename_i e hu; rw [hu]; exact h
  · rename_i e hu; rw [hu]; exact h
  · rename_i e o g l hu
    rw [hu]
    cases o <;> exact h
  · rename_i e z id n hu; rw [hu]; exact h
  · cases h

theorem smin2_ok {x y z : SV} (h : smin2 x y = some z) : amin2 (x.av f) (y.av f) = some (z.av f) := by
  unfold smin2 at h
  split at h
  · split at h
    · rename_i hk
      subst hk
      cases h
      simp only [SV.av, amin2, if_true]
    · cases h
  · cases h
theorem smax2_ok {x y z : SV} (h : smax2 x y = some z) : amax2 (x.av f) (y.av f) = some (z.av f) := by
  unfold smax2 at h
  split at h
  · split at h
    · rename_i hk
      subst hk
      cases h
      simp only [SV.av, amax2, if_true]
    · cases h
  · cases h
theorem sfold_ok {F : SV → SV → Option SV} {A : AV → AV → Option AV} (hF : ∀ x y z, F x y = some z → A (x.av f) (y.av f) = some (z.av f)) : ∀ (r : List SV) (x v : SV), sfold F x r = some v → afold A (x.av f) (r.map (SV.av f)) = some (v.av f)
  | [], x, v, h => by cases h; rfl
  | y :: r, x, v, h => by
    simp only [sfold] at h
    split at h
    · rename_i z hz
      simp only [List.map_cons, afold, hF _ _ _ hz]
      exact sfold_ok hF r z v h
    · cases h

/-! ### Composites -/
theorem avs_setN (f : Cx) : ∀ (vs cs : List SV) (off : Nat), SV.avs f (ssetN cs off vs) = setN (SV.avs f cs) off (SV.avs f vs)
  | [], cs, off => rfl
  | v :: vs, cs, off => by simp only [ssetN, SV.avs, setN, avs_setN f vs, avs_set]

theorem scellsOf_av (f : Cx) {c : SV} (h : (match c with | .raw (.agg _) => false | _ => true) = true) : cellsOf (c.av f) = SV.avs f (scellsOf c) := by
  cases c with
  | raw c => cases c <;> first | rfl | simp at h
  | pin => obtain ⟨ff, x⟩ := f; cases x <;> rfl
  | _ => rfl

theorem sfill_ok {t : TypeId} : ∀ (ps : List (Nat × Operand)) (cs r : List SV), sfill P s t cs ps = some r → afill P G0 (SV.avs f s.env) t (SV.avs f cs) ps = some (SV.avs f r)
  | [], cs, r, h => by cases h; rfl
  | (i, x) :: ps, cs, r, h => by
    simp only [sfill] at h
    simp only [afill]
    split at h
    · rename_i off n hp
      simp only [hp]
      split at h
      · rename_i hc
        simp only [Bool.and_eq_true] at hc
        obtain ⟨⟨⟨h1, h2⟩, h3⟩, h4⟩ := hc
        rw [sev_av, scellsOf_av f h2, if_pos (by rw [av_known1, avs_len, avs_len, h1, h3, h4]; rfl), avs_st, ← avs_setN]
        exact sfill_ok ps _ r h
      · cases h
    · cases h

theorem szero_ok {t : TypeId} {cs : List SV} (h : szero P t = some cs) : tzero P t = some (SV.avs f cs) := by
  simp only [szero, Option.map_eq_some_iff] at h
  obtain ⟨zs, hz, rfl⟩ := h
  rw [hz, avs_map, List.map_map]
  congr 1
  conv => lhs; rw [← List.map_id zs]
  exact List.map_congr_left fun c _ => (ofAV_av f c).symm

theorem szeros_av (zs : List SV) : ∀ n, SV.avs f (szeros zs n) = azeros (SV.avs f zs) n
  | 0 => rfl
  | n + 1 => by simp only [szeros, azeros, avs_app, szeros_av zs n]

theorem sbuild_ok {t : TypeId} {ps : List (Nat × Operand)} (h : vr f (sbuild P s t ps) KK) : abuild P G0 (SV.avs f s.env) t ps KK := by
  unfold sbuild at h
  unfold abuild
  split at h
  · rename_i d hu
    simp only [hu]
    split at h
    · rename_i ha
      rw [Bool.and_eq_true] at ha
      rw [if_pos ha.1]
      split at h
      · rename_i cs hz
        rw [szero_ok (f := f) hz]
        split at h
        · rename_i r hr
          exact ⟨ha.2, _, sfill_ok _ _ _ hr, h⟩
        · cases h
      · cases h
    · cases h
  · cases h

theorem sbuildSlice_ok {t : TypeId} {n : Nat} {ps : List (Nat × Operand)} (h : vr f (sbuildSlice P s t n ps) KK) : abuildSlice P G0 (SV.avs f s.env) t n ps KK := by
  unfold sbuildSlice at h
  unfold abuildSlice
  split at h
  · rename_i e hu
    simp only [hu]
    split at h
    · rename_i zs g hz hg
      rw [szero_ok (f := f) hz]
      split at h
      · rename_i hc
        simp only [Bool.and_eq_true, decide_eq_true_eq] at hc
        obtain ⟨⟨⟨⟨h1, h2⟩, h3⟩, h4⟩, h5⟩ := hc
        split at h
        · rename_i r hr
          split at h
          · rename_i l hl
            refine ⟨by rw [avs_len]; exact h1, ⟨by rw [avs_len]; exact h3, h4, fun e => ?_⟩, _, by rw [← szeros_av]; exact sfill_ok _ _ _ hr, ?_⟩
            · have := congrArg List.length e
              rw [avs_len, List.length_nil] at this
              omega
            · obtain ⟨k1, k2⟩ := decN_av f g n hl
              simp only [slK, avs_len, k1, h2]
              simp only [vr, SV.av, k2] at h
              exact h
          · cases h
        · cases h
      · cases h
    · cases h
  · cases h
end Go.Proofs.Ytoofpdmdgofdcaa.X

namespace Go.Proofs.Ytoofpdmdgofdcaa.X
open Go Go.RowKit Go.Proofs.Ytoofpdmdgofdcaa.E
set_option linter.unusedVariables false
set_option linter.unusedSimpArgs false

variable {P : Program} {f : Cx} {KK : AV → Prop} {B S : AState} {s : St} {K : AEnv → AState → Prop} {Q : AX → AEnv → AState → Prop} {T : Tab}

theorem set_same {α : Type} (l : List α) (t : Nat) (d : α) : l.set t (l.getD t d) = l := by
  apply List.ext_getElem?
  intro i
  by_cases h : t = i
  · subst h
    by_cases hl : t < l.length
    · rw [List.getElem?_set_self hl, List.getD_eq_getElem?_getD, List.getElem?_eq_getElem hl]; rfl
    · rw [List.getElem?_eq_none (by simp; omega), List.getElem?_eq_none (by omega)]
  · rw [List.getElem?_set_ne h]

theorem setPl_env (f : Cx) (s : St) (x : Operand) : SV.avs f (s.setPl x).env = E.setPl (SV.avs f s.env) x := by
  unfold St.setPl E.setPl
  cases x with
  | tmp t =>
    simp only
    split
    · rename_i h
      rw [avs_getD, av_pl]
      exact avs_set f _ _ _
    · rename_i h
      rw [avs_getD, av_pl, show (s.env.getD t (.raw .u)).pl = s.env.getD t (.raw .u) from pl_calm h, ← avs_getD, set_same]
  | _ => rfl
theorem setPl_σ (s : St) (x : Operand) : (s.setPl x).σ = s.σ := by
  unfold St.setPl
  cases x with
  | tmp t => simp only; split <;> rfl
  | _ => rfl

theorem stake_ok {x : Operand} {d : Option Tmp} (hs : SR f B s.σ S) (h : den (stake s x d) (KD f B K)) : atake G0 (SV.avs f s.env) S x d K := by
  have h1 := ok_den h (S' := S) (by rw [put_σ, setPl_σ]; exact hs)
  rw [avs_put, setPl_env, ← sev_av] at h1
  unfold atake
  cases x with
  | tmp t => exact h1
  | _ => exact h1

theorem ssrc_ok {g : GT} {x : SV} {q : Bool} {m : List g.T} (hs : SR f B s.σ S) (h : ssrc s g x = some (q, m)) (hq : q = true) : asrc S g.sz (x.av f) = some (m.length, m.flatMap g.av) := by
  unfold ssrc at h
  split at h
  · rename_i l
    split at h
    · rename_i hh e
      cases h
      subst hh
      simp only [SV.av, asrc, GT.cast_rfl]
      rw [fl_byte]
    · cases h
  · rename_i z id n
    split at h
    · rename_i g' l ho
      split at h
      · rename_i hh e
        split at h
        · rename_i hz
          rw [decide_eq_true_eq] at hz
          cases h
          rw [decide_eq_true_eq] at hq
          subst hh
          subst hz
          simp only [SV.av, asrc, hs.vec ho, List.drop_zero, GT.cast_rfl, fl_take, List.length_take, Nat.min_eq_left hq]
        · cases h
      · cases h
    · cases h
  · split at h
    · rename_i l hl
      cases h
      obtain ⟨o, ho⟩ := asL_av f hl
      rw [ho]
      rfl
    · cases h

theorem sappend_ok {ts : Array TypeId} {xs : Array Operand} {d : Option Tmp} (hs : SR f B s.σ S) (h : den (sappend P s ts xs d) (KD f B K)) : aappend P G0 (SV.avs f s.env) S ts xs d K := by
  unfold sappend at h
  unfold aappend
  split at h
  · rename_i t t' a x h0 h1 h2 h3
    simp only [h0, h1, h2, h3]
    split at h
    · cases h
    · rename_i d' hd1 hd2
      have hd : ∀ k, d' ≠ .int k := fun k e => hd1 k e
      split at h
      · rename_i e hu
        split at h
        · rename_i sz by_ g hsz hby hg
          split at h
          · rename_i hc
            simp only [Bool.and_eq_true, decide_eq_true_eq] at hc
            obtain ⟨⟨c1, c2⟩, c3⟩ := hc
            subst c2
            split at h
            · rename_i q m hm
              have key : ∀ (own : Ow) (n : Nat) (cs : List AV), (sev s a).av f = .sl own n cs → cs.length = n * g.sz → q = true → 2 * (n + m.length) * by_ ≤ 281474976710656 → n + m.length ≤ 281474976710656 →
                  K (aput (E.setPl (SV.avs f s.env) a) d (.sl (.yes g.sz) (n + m.length) (cs ++ (m.flatMap g.av).map AV.pl))) S →
                  optK (asrc S g.sz (ev G0 (SV.avs f s.env) x)) (appK K (SV.avs f s.env) S a d g.sz by_ n cs) := by
                intro own n cs _ k1 kq k2 k3 kk
                refine ⟨_, by rw [sev_av]; exact ssrc_ok hs hm kq, ⟨k1, fl_len g m, fl_one g m, k2, k3, c3⟩, kk⟩
              split
              · rename_i k hk; exact absurd (Option.some.inj (hd2.symm.trans hk)) (hd k)
              · rw [hu]
                simp only [hsz, hby]
                refine ⟨c1, ?_⟩
                rw [sev_av]
                split at h
                · rename_i ha
                  rw [ha]
                  obtain ⟨hg1, h⟩ := h
                  simp only [Bool.and_eq_true, decide_eq_true_eq] at hg1
                  have h4 := ok_den h (S' := S) (by rw [put_σ, setPl_σ]; exact hs)
                  rw [avs_put, setPl_env] at h4
                  refine key .nil 0 [] (by rw [ha]; rfl) (by simp) hg1.1.1 (by rw [Nat.zero_add]; exact hg1.1.2) (by rw [Nat.zero_add]; exact hg1.2) ?_
                  rw [fl_pl, List.nil_append, Nat.zero_add]
                  exact h4
                · rename_i g' l ha
                  rw [ha]
                  split at h
                  · rename_i hh e
                    subst hh
                    obtain ⟨hg1, h⟩ := h
                    simp only [Bool.and_eq_true, decide_eq_true_eq] at hg1
                    have h4 := ok_den h (S' := S) (by rw [put_σ, setPl_σ]; exact hs)
                    rw [avs_put, setPl_env] at h4
                    refine ⟨rfl, key (.yes g'.sz) l.length (l.flatMap g'.av) (by rw [ha]; rfl) (fl_len g' l) hg1.1.1 hg1.1.2 hg1.2 ?_⟩
                    rw [fl_pl]
                    simp only [SV.av, GT.cast_rfl, List.length_append, List.flatMap_append] at h4
                    exact h4
                  · cases h
                · cases h
              · rename_i hn; rw [hd2] at hn; cases hn
            · cases h
          · cases h
        · cases h
      · cases h
    · cases h
  · cases h

theorem fl_replicate (g : GT) (x : g.T) : ∀ n, (List.replicate n x).flatMap g.av = azeros (g.av x) n
  | 0 => rfl
  | n + 1 => by rw [List.replicate_succ, List.flatMap_cons, fl_replicate g x n]; rfl

theorem calm_pl {cs : List SV} (h : cs.all (fun c => !c.loud) = true) : (SV.avs f cs).map AV.pl = SV.avs f cs := by
  rw [avs_pl]
  congr 1
  conv => rhs; rw [← List.map_id cs]
  refine List.map_congr_left fun c hc => ?_
  have := List.all_eq_true.1 h c hc
  exact pl_calm (by simpa using this)

theorem dec_calm {g : GT} {cs : List SV} {x : g.T} (h : g.dec cs = some (x, [])) (hc : cs.all (fun c => !c.loud) = true) : SV.avs f cs = g.av x := by
  have := dec_av f g h
  rw [calm_pl hc] at this
  simpa [SV.avs] using this

theorem smake_ok {t : TypeId} {l c : SV} {d : Option Tmp} (hs : SR f B s.σ S) (h : den (smake P s t l c d) (KD f B K)) : amake P S t (l.av f) (c.av f) (KvS K (SV.avs f s.env) d) := by
  unfold smake at h
  unfold amake
  split at h
  · rename_i k1 l k2 c
    simp only [SV.av]
    split at h
    · rename_i e hu
      rw [hu]
      split at h
      · rename_i zs by_ g hz hby hg
        simp only [szero_ok (f := f) hz, hby]
        split at h
        · rename_i hc
          simp only [Bool.and_eq_true, decide_eq_true_eq] at hc
          obtain ⟨⟨⟨c1, c2⟩, c3⟩, c4⟩ := hc
          split at h
          · rename_i x hx
            obtain ⟨hg1, h⟩ := h
            simp only [Bool.and_eq_true, decide_eq_true_eq] at hg1
            obtain ⟨⟨⟨g1, g2⟩, g3⟩, g4⟩ := hg1
            subst g2
            have hav := dec_calm (f := f) hx c4
            have h4 := ok_den h (S' := S ++ [(SO.vec g (List.replicate l.toNat x)).ao f]) (by rw [put_σ]; exact hs.app _)
            rw [avs_put] at h4
            refine ⟨by rw [avs_len]; exact c1, fun e => ?_, ⟨g1, Int.le_refl _, g3, g4⟩, ?_⟩
            · have := congrArg List.length e
              rw [avs_len, List.length_nil] at this
              omega
            · simp only [KvS, SO.ao, fl_replicate, SV.av, hs.fresh] at h4 ⊢
              rw [avs_len, c2, hav]
              exact h4
          · cases h
        · cases h
      · cases h
    · cases h
  · cases h

theorem fl_set (g : GT) : ∀ (l : List g.T) (k : Nat) (v : g.T), k < l.length → (l.set k v).flatMap g.av = setN (l.flatMap g.av) (k * g.sz) (g.av v) := by
  intro l k v hk
  apply List.ext_getElem?
  intro i
  have hlen : (l.flatMap g.av).length = l.length * g.sz := fl_len g l
  rw [setN_get _ _ _ _ (by rw [hlen, GT.av_len]; have := Nat.mul_le_mul_right g.sz (Nat.succ_le_of_lt hk); rw [Nat.succ_mul] at this; omega)]
  rw [GT.av_len]
  by_cases h0 : g.sz = 0
  · rw [if_neg (by omega)]
    have e1 : ∀ m : List g.T, m.flatMap g.av = [] := fun m => List.eq_nil_of_length_eq_zero (by rw [fl_len, h0, Nat.mul_zero])
    rw [e1, e1]
  · have hsz : 0 < g.sz := Nat.pos_of_ne_zero h0
    have hi : i = (i / g.sz) * g.sz + i % g.sz := by rw [Nat.mul_comm]; exact (Nat.div_add_mod i g.sz).symm
    have hm : i % g.sz < g.sz := Nat.mod_lt _ hsz
    by_cases hin : k * g.sz ≤ i ∧ i < k * g.sz + g.sz
    · rw [if_pos hin]
      have hd : i / g.sz = k := by
        apply Nat.div_eq_of_lt_le
        · exact hin.1
        · rw [Nat.succ_mul]; exact hin.2
      rw [hd] at hi
      have hr : i % g.sz = i - k * g.sz := by omega
      conv => lhs; rw [hi]
      rw [fl_get g (by rw [List.length_set]; exact hk) _ hm, hr, List.getD_eq_getElem?_getD, List.getElem?_set_self hk]
      rfl
    · rw [if_neg hin]
      by_cases hlt : i / g.sz < l.length
      · have hne : i / g.sz ≠ k := fun e => hin (by rw [e] at hi; omega)
        conv => lhs; rw [hi]
        conv => rhs; rw [hi]
        rw [fl_get g (by rw [List.length_set]; exact hlt) _ hm, fl_get g hlt _ hm, List.getD_eq_getElem?_getD, List.getElem?_set_ne (Ne.symm hne), ← List.getD_eq_getElem?_getD]
      · have hge : l.length * g.sz ≤ i := by
          have := (Nat.le_div_iff_mul_le hsz).1 (Nat.le_of_not_lt hlt)
          exact this
        rw [List.getElem?_eq_none (by rw [fl_len, List.length_set]; exact hge), List.getElem?_eq_none (by rw [fl_len]; exact hge)]

theorem st_calm {c : SV} (h : c.loud = false) : c.st = c := by
  cases c with
  | sl o g l => cases o <;> simp [SV.loud] at h; rfl
  | _ => first | rfl | simp [SV.loud] at h

theorem calm_st {cs : List SV} (h : cs.all (fun c => !c.loud && c.one) = true) : (SV.avs f cs).map AV.st = SV.avs f cs := by
  rw [avs_st]
  congr 1
  conv => rhs; rw [← List.map_id cs]
  refine List.map_congr_left fun c hc => ?_
  have := List.all_eq_true.1 h c hc
  simp only [Bool.and_eq_true, Bool.not_eq_true'] at this
  exact st_calm this.1

theorem setPl_calm {x : Operand} (h : (sev s x).loud = false) : E.setPl (SV.avs f s.env) x = SV.avs f s.env := by
  rw [← setPl_env]
  unfold St.setPl
  cases x with
  | tmp t =>
    simp only [sev] at h
    simp only [h]
  | _ => rfl

theorem sstore_ok {t : TypeId} {a x : Operand} (hs : SR f B s.σ S) (h : den (sstore P s t a x) (KD f B K)) : astore P G0 (SV.avs f s.env) S t a x K := by
  unfold sstore at h
  unfold astore
  rw [sev_av, sev_av]
  split at h
  · rename_i id off ha
    rw [ha]
    simp only [SV.av]
    split at h
    · rename_i cs hc
      simp only [hs.cells hc]
      have hlt := (List.getElem?_eq_some_iff.1 hc).1
      split at h
      · rename_i vs hx
        rw [hx]
        simp only [SV.av]
        split at h
        · rename_i hcd
          simp only [Bool.and_eq_true, decide_eq_true_eq] at hcd
          have h4 := ok_den h (hs.set hlt _)
          refine ⟨by rw [avs_len]; exact hcd.1.1, by rw [avs_one]; exact hcd.1.2, by rw [avs_len, avs_len]; exact hcd.2, ?_⟩
          rw [avs_st, ← avs_setN]
          exact h4
        · cases h
      · rename_i c hx
        split at h
        · rename_i hcd
          simp only [Bool.and_eq_true, decide_eq_true_eq] at hcd
          have h4 := ok_den h (S' := S.set (f id) (.cells ((SV.avs f cs).set off ((sev s x).av f)))) (by
            have := hs.set hlt (.cells (cs.set off (sev s x)))
            simp only [SO.ao, avs_set] at this
            have e : ((s.setPl x).setC id off cs (sev s x)).σ = s.σ.set id (.cells (cs.set off (sev s x))) := by
              simp only [St.setC, setPl_σ]
            rw [e]
            exact this)
          have e2 : ((s.setPl x).setC id off cs (sev s x)).env = (s.setPl x).env := rfl
          rw [e2, setPl_env] at h4
          generalize hv : sev s x = v at *
          split
          · rename_i ws hw
            exfalso
            have h1 := hcd.1.1
            rw [← av_one f, hw] at h1
            cases h1
          · exact ⟨by rw [av_one]; exact hcd.1.1, hcd.1.2, by rw [avs_len]; exact hcd.2, h4⟩
        · cases h
    · cases h
  · rename_i z id k off ha
    rw [ha]
    simp only [SV.av]
    split at h
    · rename_i g l hc
      simp only [hs.vec hc]
      have hlt := (List.getElem?_eq_some_iff.1 hc).1
      split at h
      · rename_i hz
        simp only [Bool.and_eq_true, decide_eq_true_eq] at hz
        obtain ⟨⟨rfl, rfl⟩, hsz⟩ := hz
        split at h
        · rename_i v hv
          split at h
          · rename_i hall
            obtain ⟨hk, h⟩ := h
            rw [decide_eq_true_eq] at hk
            have hcalm : (scellsOf (sev s x)).all (fun c => !c.loud) = true := List.all_eq_true.2 fun c hc => by
              have := List.all_eq_true.1 hall c hc
              simp only [Bool.and_eq_true] at this
              exact this.1
            have hav := dec_calm (f := f) hv hcalm
            have h4 := ok_den h (hs.set hlt (.vec g (List.set l k v)))
            have hle : k * g.sz + g.sz ≤ l.length * g.sz := by have := Nat.mul_le_mul_right g.sz (Nat.succ_le_of_lt hk); rw [Nat.succ_mul] at this; exact this
            simp only [SO.ao, fl_set g l k v hk] at h4
            have hcase : (∃ vs, sev s x = .agg vs) ∨ scellsOf (sev s x) = [sev s x] := by cases sev s x <;> simp [scellsOf]
            rcases hcase with ⟨vs, hw⟩ | hw
            · rw [hw] at hav hall ⊢
              simp only [scellsOf] at hav hall
              simp only [SV.av]
              refine ⟨by rw [hav, GT.av_len]; exact hsz, ?_, by rw [hav, GT.av_len, fl_len]; omega, ?_⟩
              · rw [hav]; exact GT.av_one g v
              · rw [calm_st (f := f) hall, hav, Nat.add_zero]
                exact h4
            · rw [hw] at hav hall hcalm
              have h1 : (sev s x).one = true := by
                have := List.all_eq_true.1 hall (sev s x) (by simp)
                simp only [Bool.and_eq_true] at this
                exact this.2
              have h2 : (sev s x).loud = false := by
                have := List.all_eq_true.1 hcalm (sev s x) (by simp)
                simpa using this
              have hg1 : g.sz = 1 := by
                have := congrArg List.length hav
                rw [GT.av_len] at this
                simpa [SV.avs] using this.symm
              have e3 : setN (l.flatMap g.av) (k * g.sz) (g.av v) = (l.flatMap g.av).set (k * g.sz + 0) ((sev s x).av f) := by rw [← hav]; rfl
              rw [e3] at h4
              have hcalm2 := setPl_calm (f := f) (s := s) (x := x) h2
              split
              · rename_i ws hws
                exfalso
                rw [← av_one f, hws] at h1
                cases h1
              · refine ⟨by rw [av_one]; exact h1, by rw [hsz, hg1], by rw [fl_len]; omega, ?_⟩
                rw [hcalm2]
                exact h4
          · cases h
        · cases h
      · cases h
    · cases h
  · cases h

theorem sbox_ok {x : Operand} {d : Option Tmp} (hs : SR f B s.σ S) (h : den (sbox s x d) (KD f B K)) : abox G0 (SV.avs f s.env) S x d K := by
  unfold sbox at h
  unfold abox
  rw [sev_av]
  split at h
  · rename_i cs hx
    rw [hx]
    simp only [SV.av]
    have h4 := ok_den h (by rw [put_σ]; exact hs.app _)
    rw [avs_put] at h4
    simp only [SV.av, hs.fresh, SO.ao, ← avs_st] at h4
    exact h4
  · rename_i c hx
    split at h
    · rename_i h1
      have h4 := ok_den h (S' := S ++ [.cells [(sev s x).av f]]) (by
        rw [put_σ]
        have := hs.app (.cells [sev s x])
        simp only [SO.ao, SV.avs] at this
        simp only [St.new, setPl_σ]
        exact this)
      rw [avs_put] at h4
      simp only [SV.av, hs.fresh] at h4
      have e2 : ((s.setPl x).new (.cells [sev s x])).env = (s.setPl x).env := rfl
      rw [e2, setPl_env] at h4
      generalize hv : sev s x = v at *
      split
      · rename_i ws hw
        exfalso
        rw [← av_one f, hw] at h1
        cases h1
      · exact ⟨by rw [av_one]; exact h1, h4⟩
    · cases h

theorem sextract_ok {x : Operand} {i : Nat} {d : Option Tmp} (hs : SR f B s.σ S) (h : den (sextract s x i d) (KD f B K)) : aextract G0 (SV.avs f s.env) S x i d K := by
  unfold sextract at h
  unfold aextract
  split at h
  · rename_i t
    simp only [avs_getD]
    split at h
    · rename_i cs hx
      have hx' : s.env.getD t (.raw .u) = .tup cs := hx
      rw [hx']
      simp only [SV.av]
      split at h
      · rename_i c hc
        rw [avs_get, hc]
        simp only [Option.map_some]
        have key : den (ok ((match c.loud with | true => s.set t (.tup (cs.set i c.pl)) | false => s).put d c)) (KD f B K) → (∀ ds, c ≠ .tup ds) → (∀ ds, c ≠ .raw ds) → one2 (c.av f) = true ∧ K (aput ((SV.avs f s.env).set t (.tup ((SV.avs f cs).set i (c.av f).pl))) d (c.av f)) S := by
          intro h n1 n2
          have h4 := ok_den h (S' := S) (by rw [put_σ]; split <;> exact hs)
          rw [avs_put] at h4
          refine ⟨by cases c <;> first | rfl | (exact absurd rfl (n1 _)) | (exact absurd rfl (n2 _)) | (simp only [SV.av]; split <;> rfl), ?_⟩
          have e : SV.avs f (match c.loud with | true => s.set t (.tup (cs.set i c.pl)) | false => s).env = (SV.avs f s.env).set t (.tup ((SV.avs f cs).set i (c.av f).pl)) := by
            split
            · rename_i hl
              rw [av_pl]
              exact (avs_set f _ _ _).trans (by simp only [SV.av, avs_set])
            · rename_i hl
              have e1 : (SV.avs f cs).set i (c.av f).pl = SV.avs f cs := by
                rw [av_pl, pl_calm hl, ← avs_set]
                congr 1
                have := set_same cs i c
                rw [List.getD_eq_getElem?_getD, hc] at this
                exact this
              rw [e1]
              have e2 : AV.tup (SV.avs f cs) = (SV.avs f s.env).getD t .u := by rw [avs_getD, hx']; rfl
              rw [e2, set_same]
          rw [e] at h4
          exact h4
        split at h
        · cases h
        · cases h
        · rename_i n1 n2
          exact key h n1 n2
      · cases h
    · cases h
  · cases h

theorem spick_ok {c x y : SV} {d : Option Tmp} (hs : SR f B s.σ S) (h : den (spick s c x y d) (KD f B K)) : apick (c.av f) (x.av f) (y.av f) (Kv K (SV.avs f s.env) S d) := by
  have one : ∀ v : SV, den (ok (s.put d v.pl)) (KD f B K) → Kv K (SV.avs f s.env) S d (v.av f).pl := fun v h => by
    have h4 := ok_den h (S' := S) (by rw [put_σ]; exact hs)
    rw [avs_put] at h4
    rw [av_pl]
    exact h4
  unfold spick at h
  split at h
  · show brK true _ _
    exact ⟨fun _ => one x h, fun e => by cases e⟩
  · show brK false _ _
    exact ⟨fun e => (by cases e), fun _ => one y h⟩
  · show brK _ _ _
    exact ⟨fun e => one x (h.1 e), fun e => one y (h.2 e)⟩
  · cases h

/-- What the table says is so. -/
def TabOK (P : Program) (T : Tab) : Prop := ∀ (fid : FuncId) (args : List SV) (f : Cx) (S : AState) (v : SV), (T fid args = .val v ∨ T fid args = .req true v) → ACalls P G0 fid (SV.avs f args) S (retIs (v.av f) S)

theorem TabOK.use (hT : TabOK P T) {fid : FuncId} {args : List SV} (h : vr f (T fid args) KK) : ∃ v : SV, KK (v.av f) ∧ ∀ S, ACalls P G0 fid (SV.avs f args) S (retIs (v.av f) S) := by
  cases e : T fid args with
  | no => rw [e] at h; exact h.elim
  | val v => rw [e] at h; exact ⟨v, h, fun S => hT fid args f S v (.inl e)⟩
  | req g v => rw [e] at h; obtain ⟨rfl, h⟩ := h; exact ⟨v, h, fun S => hT fid args f S v (.inr e)⟩

theorem scall_ok (hT : TabOK P T) {c : Call} {ty : TypeId} {d : Option Tmp} (hnb : ∀ b, c.callee ≠ .builtin b) (hs : SR f B s.σ S) (h : den (scall T s c d) (KD f B K)) : acall P G0 c ty (SV.avs f s.env) S d K Q := by
  unfold scall at h
  unfold acall
  split at h
  · rename_i x hc
    rw [hc]
    simp only
    rw [sev_av]
    split at h
    · rename_i fid cap hx
      rw [hx]
      simp only [SV.av]
      obtain ⟨v, hv, hcall⟩ := hT.use (put_vr hs h)
      have e : SV.avs f ((c.args.toList.map fun x => (sev s x).ar) ++ cap.map SV.pl) = aargs G0 (SV.avs f s.env) c.args ++ (SV.avs f cap).map AV.pl := by
        rw [avs_app, avs_pl, aargs, avs_map, List.map_map]
        congr 1
        exact List.map_congr_left fun x _ => by simp only [Function.comp_apply, sev_av, av_ar]
      rw [← e]
      exact ACalls.use (hcall S) hv
    · cases h
  · cases h
end Go.Proofs.Ytoofpdmdgofdcaa.X

namespace Go.Proofs.Ytoofpdmdgofdcaa.X
open Go Go.RowKit Go.Proofs.Ytoofpdmdgofdcaa.E
set_option linter.unusedVariables false
set_option linter.unusedSimpArgs false

variable {P : Program} {f : Cx} {KK : AV → Prop} {B S : AState} {s : St} {K : AEnv → AState → Prop} {Q : AX → AEnv → AState → Prop} {T : Tab}

theorem sop_ok (hT : TabOK P T) {rest : List Oper} {o : Oper} (hs : SR f B s.σ S) (h : den (sop P T rest o s) (KD f B K)) : aop P G0 rest o (SV.avs f s.env) S K Q := by
  have put1 : ∀ (d : Option Tmp) (v : SV), den (ok (s.put d v)) (KD f B K) → Kv K (SV.avs f s.env) S d (v.av f) := fun d v h => by
    have h4 := ok_den h (S' := S) (by rw [put_σ]; exact hs)
    rw [avs_put] at h4
    exact h4
  unfold sop at h
  unfold aop
  split at h
  · rename_i x e
    rw [e]
    exact stake_ok hs h
  · rename_i x e
    rw [e]
    simp only
    split at h
    · rename_i hf
      rw [if_pos hf]
      exact stake_ok hs h
    · rename_i hf
      rw [if_neg hf, sev_av, av_pn]
      exact put1 _ _ h
  · rename_i t a e
    rw [e]
    simp only
    split at h
    · rename_i hf
      rw [if_pos hf]
      unfold aloadTake
      split at h
      · rename_i dd hu
        rw [hu]
        simp only
        split at h
        · cases h
        · rename_i ha
          rw [if_neg ha, sev_av]
          split at h
          · rename_i id off hp
            rw [hp]
            simp only [SV.av]
            split at h
            · rename_i cs hc
              simp only [hs.cells hc]
              have hlt := (List.getElem?_eq_some_iff.1 hc).1
              split at h
              · rename_i c hcc
                split at h
                · rename_i h1
                  refine ⟨c.av f, by rw [avs_get, hcc]; rfl, by rw [av_one]; exact h1, ?_⟩
                  cases hl : c.loud with
                  | true =>
                    rw [hl] at h
                    simp only at h
                    have h4 := ok_den h (S' := S.set (f id) (.cells ((SV.avs f cs).set off (c.pl.av f)))) (by
                      rw [put_σ]
                      have := hs.set hlt (.cells (cs.set off c.pl))
                      simp only [SO.ao, avs_set] at this
                      exact this)
                    rw [avs_put] at h4
                    rw [av_pl]
                    exact h4
                  | false =>
                    rw [hl] at h
                    simp only at h
                    have h4 := ok_den h (S' := S) (by rw [put_σ]; exact hs)
                    rw [avs_put] at h4
                    have e1 : (SV.avs f cs).set off (c.av f).pl = SV.avs f cs := by
                      rw [av_pl, pl_calm hl, ← avs_set]
                      congr 1
                      have := set_same cs off c
                      rw [List.getD_eq_getElem?_getD, hcc] at this
                      exact this
                    have e2 : S.set (f id) (.cells (SV.avs f cs)) = S := by
                      have hh := hs.cells hc
                      have := set_same S (f id) (.cells (SV.avs f cs))
                      rw [List.getD_eq_getElem?_getD, hh] at this
                      exact this
                    rw [e1, e2]
                    exact h4
                · cases h
              · cases h
            · cases h
          · cases h
      · cases h
    · rename_i hf
      rw [if_neg hf, sev_av]
      exact sload_ok hs (put_vr hs h)
  · rename_i t e
    rw [e]
    simp only
    split at h
    · rename_i cs hz
      rw [szero_ok (f := f) hz]
      have h4 := ok_den h (by rw [put_σ]; exact hs.app _)
      rw [avs_put] at h4
      simp only [SV.av, hs.fresh, SO.ao] at h4
      exact h4
    · cases h
  · rename_i t x e
    rw [e]
    exact sbox_ok hs h
  · rename_i t ps e
    rw [e]
    exact sbuild_ok (put_vr hs h)
  · rename_i t n ps e
    rw [e]
    exact sbuildSlice_ok (put_vr hs h)
  · rename_i t a x e
    rw [e]
    simp only
    split at h
    · rename_i hd
      rw [hd]
      exact sstore_ok hs h
    · cases h
  · rename_i x e
    rw [e]
    simp only
    rw [sev_av]
    split at h
    · rename_i g l k off hx
      rw [hx]
      exact put1 _ _ h
    · rename_i id off hx
      rw [hx]
      exact put1 _ _ h
    · rename_i z id k off hx
      rw [hx]
      exact put1 _ _ h
    · cases h
  · rename_i op t x y t' e
    rw [e]
    simp only
    rw [sev_av, sev_av]
    exact sbin_ok (put_vr hs h)
  · rename_i op t x e
    rw [e]
    simp only
    rw [sev_av]
    exact sun_ok (put_vr hs h)
  · rename_i t t' x e
    rw [e]
    simp only
    rw [sev_av]
    exact scnv_ok (put_vr hs h)
  · rename_i g fi cap e
    rw [e]
    simp only
    split at h
    · rename_i g' 
      have h4 := put1 _ _ h
      have e4 : SV.av f (.fn g' (cap.toList.map fun x => (sev s x).ar)) = .fn g' (cap.toList.map (SV.av f ∘ fun x => (sev s x).ar)) := by simp only [SV.av, avs_map, List.map_map]
      rw [e4] at h4
      have e3 : (cap.toList.map fun x => (ev G0 (SV.avs f s.env) x).ar) = cap.toList.map (SV.av f ∘ fun x => (sev s x).ar) := List.map_congr_left fun x _ => by simp only [Function.comp_apply, sev_av, av_ar]
      rw [e3]
      exact h4
    · cases h
  · rename_i t l c e
    rw [e]
    simp only
    rw [sev_av, sev_av]
    exact smake_ok hs h
  · rename_i t x lo hi mx e
    rw [e]
    simp only
    rw [sev_av]
    exact sslice_ok (put_vr hs h)
  · rename_i t x n e
    rw [e]
    simp only
    rw [sev_av]
    exact sfieldAddr_ok (put_vr hs h)
  · rename_i t x n e
    rw [e]
    simp only
    rw [sev_av]
    exact sfield_ok (put_vr hs h)
  · rename_i t x i e
    rw [e]
    simp only
    rw [sev_av, sev_av]
    exact sidx_ok (put_vr hs h)
  · rename_i t x i e
    rw [e]
    simp only
    rw [sev_av, sev_av]
    exact sindex_ok (put_vr hs h)
  · rename_i x i e
    rw [e]
    exact sextract_ok hs h
  · rename_i c x y e
    rw [e]
    simp only
    rw [sev_av, sev_av, sev_av]
    exact spick_ok hs h
  · rename_i c e
    rw [e]
    simp only
    split at h
    · rename_i b hc
      unfold acall
      rw [hc]
      simp only
      split at h
      · split at h
        · rename_i t x h1 h2
          simp only [h1, h2]
          rw [sev_av]
          exact slen_ok (put_vr hs h)
        · cases h
      · split at h
        · rename_i x r h1
          simp only [h1]
          split at h
          · rename_i v hv
            have h4 := put1 _ _ h
            have h5 := sfold_ok (f := f) (fun x y z => smin2_ok) _ _ _ hv
            refine ⟨v.av f, ?_, by rw [plK, av_pl]; exact h4⟩
            rw [sev_av, ← h5, List.map_map]
            congr 1
            exact List.map_congr_left fun x _ => sev_av f s x
          · cases h
        · cases h
      · split at h
        · rename_i x r h1
          simp only [h1]
          split at h
          · rename_i v hv
            have h4 := put1 _ _ h
            have h5 := sfold_ok (f := f) (fun x y z => smax2_ok) _ _ _ hv
            refine ⟨v.av f, ?_, by rw [plK, av_pl]; exact h4⟩
            rw [sev_av, ← h5, List.map_map]
            congr 1
            exact List.map_congr_left fun x _ => sev_av f s x
          · cases h
        · cases h
      · exact .inl (sappend_ok hs h)
      · cases h
    · rename_i hnb
      exact scall_ok hT (fun b hb => hnb b hb) hs h
  · cases h

theorem den_bind {t : Tree} {k : St → Tree} {QX : SX → St → Prop} (h : den (t.bind k) QX) : den t (fun x s => match x with | .normal => den (k s) QX | x => QX x s) := by
  induction t with
  | stuck => exact h
  | leaf x s => cases x <;> exact h
  | req g t ih => exact ⟨h.1, ih h.2⟩
  | ite c a b iha ihb => exact ⟨fun e => iha (h.1 e), fun e => ihb (h.2 e)⟩

theorem bind_KD {t : Tree} {k : St → Tree} {K' : AEnv → AState → Prop} (h : den (t.bind k) (KD f B K)) (hk : ∀ s', den (k s') (KD f B K) → ∀ S', SR f B s'.σ S' → K' (SV.avs f s'.env) S') : den t (KD f B K') :=
  den_mono (den_bind h) fun x s' h => by
    cases x with
    | normal => exact ⟨rfl, fun S' hS => hk s' h S' hS⟩
    | exit i => exact absurd h.1 (by simp)
    | ret => exact absurd h.1 (by simp)

theorem get_at {t : Nat} {v : SV} (h : s.get t = v) (hn : v ≠ .raw .u) : s.env[t]? = some v := by
  simp only [St.get, List.getD_eq_getElem?_getD] at h
  cases e : s.env[t]? with
  | none => rw [e] at h; exact absurd h.symm hn
  | some c => rw [e] at h; simp only [Option.getD_some] at h; rw [h]

theorem avs_setB {t : Nat} {x : Bool} {v : SV} (h : s.get t = .b x) (hv : v.av f = .b x) : SV.avs f (s.set t v).env = SV.avs f s.env := by
  have h1 := get_at h (by simp)
  have h2 : (SV.avs f s.env)[t]? = some (.b x) := by rw [avs_get, h1]; rfl
  have h3 := set_same (SV.avs f s.env) t .u
  rw [List.getD_eq_getElem?_getD, h2] at h3
  have h4 : SV.avs f (s.set t v).env = (SV.avs f s.env).set t (v.av f) := avs_set f _ _ _
  rw [h4, hv]
  exact h3

/-- How an operation's guard goes. -/
theorem guard_none {ops : List Oper} {o : Oper} {env : AEnv} (hg : o.guard = none) : gval ops env o = some true := by unfold gval; rw [hg]
theorem guard_at {ops : List Oper} {o : Oper} {env : AEnv} {j t : Nat} {want : Bool} (hg : o.guard = some (j, want)) (ht : (ops[j]?).bind (·.dst) = some t) : gval ops env o = match env[t]? with
    | some (.b x) => some (x == want)
    | some (.tup []) => some false
    | _ => none := by
  unfold gval
  rw [hg]
  cases e : ops[j]? with
  | none => rw [e] at ht; cases ht
  | some oj =>
    rw [e] at ht
    simp only [Option.bind_some] at ht
    simp only [e, ht]
    rfl

/-- The steps of a region, whatever one operation asks. -/
theorem steps_ok {ops : List Oper} {step : Oper → List Oper → St → Tree} {A : Oper → List Oper → (AEnv → AState → Prop) → AEnv → AState → Prop} {W : List Oper → AEnv → AState → Prop} {go : List Oper → St → Tree}
    (hgo0 : ∀ s, go [] s = ok s) (hgo : ∀ o rest s, go (o :: rest) s = match o.guard with
    | none => (step o rest s).bind (go rest)
    | some (j, want) => match (ops[j]?).bind (·.dst) with
      | some t => match s.get t with
        | .tt => match want with
          | true => (step o rest s).bind (go rest)
          | false => go rest (s.put o.dst (.tup []))
        | .ff => match want with
          | false => (step o rest s).bind (go rest)
          | true => go rest (s.put o.dst (.tup []))
        | .tup [] => go rest (s.put o.dst (.tup []))
        | .b x => match want with
          | true => .ite x ((step o rest (s.set t .tt)).bind (go rest)) (go rest ((s.set t .ff).put o.dst (.tup [])))
          | false => .ite x (go rest ((s.set t .tt).put o.dst (.tup []))) ((step o rest (s.set t .ff)).bind (go rest))
        | _ => .stuck
      | none => .stuck)
    (hW0 : ∀ e S, W [] e S = K e S) (hW : ∀ o rest e S, W (o :: rest) e S = match gval ops e o with
      | some b => brK b (A o rest (W rest) e S) (W rest (aput e o.dst (.tup [])) S)
      | none => False)
    (hstep : ∀ o rest s S K', SR f B s.σ S → den (step o rest s) (KD f B K') → A o rest K' (SV.avs f s.env) S) :
    ∀ (rest : List Oper) (s : St) (S : AState), SR f B s.σ S → den (go rest s) (KD f B K) → W rest (SV.avs f s.env) S := by
  intro rest
  induction rest with
  | nil =>
    intro s S hs h
    rw [hgo0] at h
    rw [hW0]
    exact ok_den h hs
  | cons o rest ih =>
    intro s S hs h
    have st1 : ∀ s : St, ∀ S, SR f B s.σ S → den ((step o rest s).bind (go rest)) (KD f B K) → A o rest (W rest) (SV.avs f s.env) S := fun s S hs h =>
      hstep o rest s S _ hs (bind_KD h fun s' h' S' hS' => ih s' S' hS' h')
    have sk1 : ∀ s : St, ∀ S, SR f B s.σ S → den (go rest (s.put o.dst (.tup []))) (KD f B K) → W rest (aput (SV.avs f s.env) o.dst (.tup [])) S := fun s S hs h => by
      have := ih (s.put o.dst (.tup [])) S (by rw [put_σ]; exact hs) h
      rw [avs_put] at this
      exact this
    rw [hgo] at h
    rw [hW]
    split at h
    · rename_i hg
      rw [guard_none hg]
      exact ⟨fun _ => st1 s S hs h, fun e => (by cases e)⟩
    · rename_i j want hg
      split at h
      · rename_i t ht
        rw [guard_at hg ht]
        split at h
        · rename_i hv
          have h1 : (SV.avs f s.env)[t]? = some (.b true) := by rw [avs_get, get_at hv (by simp)]; rfl
          rw [h1]
          cases want with
          | true => exact ⟨fun _ => st1 s S hs h, fun e => (by cases e)⟩
          | false => exact ⟨fun e => (by cases e), fun _ => sk1 s S hs h⟩
        · rename_i hv
          have h1 : (SV.avs f s.env)[t]? = some (.b false) := by rw [avs_get, get_at hv (by simp)]; rfl
          rw [h1]
          cases want with
          | false => exact ⟨fun _ => st1 s S hs h, fun e => (by cases e)⟩
          | true => exact ⟨fun e => (by cases e), fun _ => sk1 s S hs h⟩
        · rename_i hv
          have h1 : (SV.avs f s.env)[t]? = some (.tup []) := by rw [avs_get, get_at hv (by simp)]; rfl
          rw [h1]
          exact ⟨fun e => (by cases e), fun _ => sk1 s S hs h⟩
        · rename_i x hv
          have h1 : (SV.avs f s.env)[t]? = some (.b x) := by rw [avs_get, get_at hv (by simp)]; rfl
          rw [h1]
          cases want with
          | true =>
            refine ⟨fun e => ?_, fun e => ?_⟩
            · have hx : x = true := by simpa using e
              have h2 := st1 (s.set t .tt) S hs (h.1 hx)
              rw [avs_setB hv (by rw [hx]; rfl)] at h2
              exact h2
            · have hx : x = false := by simpa using e
              have h2 := sk1 (s.set t .ff) S hs (h.2 hx)
              rw [avs_setB hv (by rw [hx]; rfl)] at h2
              exact h2
          | false =>
            refine ⟨fun e => ?_, fun e => ?_⟩
            · have hx : x = false := by simpa using e
              have h2 := st1 (s.set t .ff) S hs (h.2 hx)
              rw [avs_setB hv (by rw [hx]; rfl)] at h2
              exact h2
            · have hx : x = true := by simpa using e
              have h2 := sk1 (s.set t .tt) S hs (h.1 hx)
              rw [avs_setB hv (by rw [hx]; rfl)] at h2
              exact h2
        · cases h
      · cases h

theorem srg_ok (hT : TabOK P T) {ops : List Oper} (rest : List Oper) (s : St) (S : AState) (hs : SR f B s.σ S) (h : den (srg P T ops rest s) (KD f B (Q .normal))) : awOps P G0 ops Q rest (SV.avs f s.env) S :=
  steps_ok (ops := ops) (step := fun o rest s => sop P T rest o s) (A := fun o rest K' e S => aop P G0 rest o e S K' Q) (W := awOps P G0 ops Q) (go := srg P T ops) (fun s => rfl) (fun o rest s => rfl) (fun e S => rfl) (fun o rest e S => rfl)
    (fun o rest s S K' hs h => sop_ok hT hs h) rest s S hs h

/-- Operations that hand on no room, and look at nothing behind. -/
def plain (o : Op) : Bool :=
  match o with
  | .assign _ | .move _ | .load .. | .box .. | .store .. | .extract .. => false
  | .alloc _ | .build .. | .buildSlice .. | .nilCheck _ | .binOp .. | .unOp .. | .convert .. | .makeFunc .. | .makeSlice .. | .slice .. | .fieldAddr .. | .field .. | .indexAddr .. | .index .. | .pick .. => true
  | .call c => match c.callee with
    | .builtin b => match b with
      | .len | .min | .max => true
      | _ => false
    | _ => false
  | _ => false

theorem aopV_of {o : Oper} (hp : plain o.op = true) {env : AEnv} (h : aop P G0 [] o env S K Q) : aopV P G0 o env S (putK K env o.dst) := by
  unfold aop at h
  unfold aopV
  unfold plain at hp
  split at h <;> rename_i e <;> first
    | exact h.elim
    | (rw [e] at hp; first | (cases hp; done) | skip)
  all_goals (rw [e])
  all_goals try (first | exact h | (simp only; exact h))
  rename_i c
  simp only at hp ⊢
  unfold acall at h
  unfold acallV
  split at hp
  · rename_i b hb
    rw [hb] at h ⊢
    simp only at h ⊢
    split at hp
    · exact h
    · exact h
    · exact h
    · cases hp
  · cases hp

theorem sop_plain {o : Oper} {QX : SX → St → Prop} (hn : isApp o.op = false) (hc : isCallF o.op = false) (h : den (sop P T [] o s) QX) (h1 : ∀ x, o.op ≠ .assign x) (h2 : ∀ x, o.op ≠ .move x) (h3 : ∀ t x, o.op ≠ .load t x) (h4 : ∀ t x, o.op ≠ .box t x) (h5 : ∀ t a x, o.op ≠ .store t a x) (h6 : ∀ x i, o.op ≠ .extract x i) : plain o.op = true := by
  unfold sop at h
  unfold plain
  split at h <;> rename_i e <;> first | (exact absurd e (h1 _)) | (exact absurd e (h2 _)) | (exact absurd e (h3 _ _)) | (exact absurd e (h4 _ _)) | (exact absurd e (h5 _ _ _)) | (exact absurd e (h6 _ _)) | (rw [e]; done) | skip
  · rename_i c
    rw [e] at hn hc ⊢
    simp only at h ⊢
    simp only [isApp, isCallF] at hn hc
    split at h
    · rename_i b hb
      simp only [hb] at hn hc ⊢
      split at h
      · rfl
      · rfl
      · rfl
      · cases hn
      · cases h
    · rename_i hnb
      unfold scall at h
      split at h
      · rename_i x hx
        rw [hx] at hc
        cases hc
      · cases h
  · cases h

theorem sopD_ok (hT : TabOK P T) {o : Oper} (hc : isCallF o.op = false) (hs : SR f B s.σ S) (h : den (sopD P T o s) (KD f B K)) : aopV P G0 o (SV.avs f s.env) S (putK K (SV.avs f s.env) o.dst) := by
  have put1 : ∀ (d : Option Tmp) (v : SV), den (ok (s.put d v)) (KD f B K) → putK K (SV.avs f s.env) d (v.av f) S := fun d v h => by
    have h4 := ok_den h (S' := S) (by rw [put_σ]; exact hs)
    rw [avs_put] at h4
    exact h4
  unfold sopD at h
  split at h
  · rename_i x e
    unfold aopV
    rw [e]
    simp only
    rw [sev_av, av_pl]
    exact put1 _ _ h
  · rename_i x e
    unfold aopV
    rw [e]
    simp only
    rw [sev_av, av_pn]
    exact put1 _ _ h
  · rename_i t a e
    unfold aopV
    rw [e]
    simp only
    rw [sev_av]
    exact sload_ok hs (put_vr hs h)
  · rename_i t x e
    unfold aopV
    rw [e]
    simp only
    unfold boxV
    rw [sev_av]
    split at h
    · rename_i cs hx
      rw [hx]
      simp only [SV.av]
      have h4 := ok_den h (by rw [put_σ]; exact hs.app _)
      rw [avs_put] at h4
      simp only [SV.av, hs.fresh, SO.ao, ← avs_st] at h4
      exact h4
    · rename_i c hx
      split at h
      · rename_i h1
        have h4 := ok_den h (S' := S ++ [.cells [(sev s x).st.av f]]) (by
          rw [put_σ]
          have := hs.app (.cells [(sev s x).st])
          simp only [SO.ao, SV.avs] at this
          exact this)
        rw [avs_put] at h4
        simp only [SV.av, hs.fresh] at h4
        generalize hv : sev s x = v at *
        split
        · rename_i ws hw
          exfalso
          rw [← av_one f, hw] at h1
          cases h1
        · exact ⟨by rw [av_one]; exact h1, by rw [av_st]; exact h4⟩
      · cases h
  · rename_i t a x e
    unfold aopV
    rw [e]
    simp only
    have common : (sev s x).st = sev s x → E.setPl (SV.avs f s.env) x = SV.avs f s.env → den (sstore P s t a x) (KD f B K) → o.dst = none → storeV P G0 (SV.avs f s.env) S t a x (putK K (SV.avs f s.env) none) := by
      intro hst hpl h hd
      have h1 := sstore_ok hs h
      unfold astore at h1
      unfold storeV
      rw [sev_av, sev_av] at h1 ⊢
      generalize hva : SV.av f (sev s a) = va at h1 ⊢
      generalize hvx : SV.av f (sev s x) = vx at h1 ⊢
      have hst' : vx.st = vx := by rw [← hvx, av_st, hst]
      cases va with
      | pm id off =>
        simp only at h1 ⊢
        cases hO : S[id]? with
        | none => rw [hO] at h1; exact h1.elim
        | some O =>
          rw [hO] at h1
          cases O with
          | cells cs =>
            simp only at h1 ⊢
            cases vx with
            | agg vs => exact h1
            | _ =>
              simp only at h1 ⊢
              rw [hpl] at h1
              rw [hst']
              exact h1
          | _ => exact h1.elim
      | _ => exact h1.elim
    split at h
    · rename_i hd
      rw [hd]
      simp only
      split at h
      · rename_i vs hx
        exact common (by rw [hx]; rfl) (setPl_calm (by rw [hx]; rfl)) h hd
      · rename_i c hx
        split at h
        · rename_i hl
          exact common (st_calm hl) (setPl_calm hl) h hd
        · rename_i hl
          unfold storeV
          rw [sev_av, sev_av]
          split at h
          · rename_i id off ha
            rw [ha]
            simp only [SV.av]
            split at h
            · rename_i cs hcs
              simp only [hs.cells hcs]
              have hlt := (List.getElem?_eq_some_iff.1 hcs).1
              split at h
              · rename_i hcd
                simp only [Bool.and_eq_true, decide_eq_true_eq] at hcd
                have h4 := ok_den h (S' := S.set (f id) (.cells ((SV.avs f cs).set off ((sev s x).st.av f)))) (by
                  have := hs.set hlt (.cells (cs.set off (sev s x).st))
                  simp only [SO.ao, avs_set] at this
                  exact this)
                generalize hv : sev s x = v at *
                split
                · rename_i ws hw
                  exfalso
                  have h1 := hcd.1.1
                  rw [← av_one f, hw] at h1
                  cases h1
                · exact ⟨by rw [av_one]; exact hcd.1.1, hcd.1.2, by rw [avs_len]; exact hcd.2, by rw [av_st]; exact h4⟩
              · cases h
            · cases h
          · cases h
    · cases h
  · rename_i x i e
    unfold aopV
    rw [e]
    simp only
    unfold extractV
    rw [sev_av]
    split at h
    · rename_i cs hx
      rw [hx]
      simp only [SV.av]
      split at h
      · rename_i c hcs
        exact ⟨c.av f, by rw [avs_get, hcs]; rfl, by rw [plK, av_pl]; exact put1 _ _ h⟩
      · cases h
    · cases h
  · rename_i op n1 n2 n3 n4 n5 n6
    split at h
    · cases h
    · rename_i hn
      exact aopV_of (Q := fun _ _ _ => False) (sop_plain hn hc h (fun x e => n1 x e) (fun x e => n2 x e) (fun t x e => n3 t x e) (fun t x e => n4 t x e) (fun t a x e => n5 t a x e) (fun x i e => n6 x i e)) (sop_ok hT hs h)

theorem sopD_call (hT : TabOK P T) {o : Oper} {cf : Bool} (hc : isCallF o.op = true) (hs : SR f B s.σ S) (h : den (sopD P T o s) (KD f B K)) : acallD P G0 cf o (SV.avs f s.env) S (putK K (SV.avs f s.env) o.dst) := by
  unfold isCallF at hc
  split at hc
  · rename_i c e
    split at hc
    · rename_i x hx
      unfold sopD at h
      rw [e] at h
      simp only [isApp, hx, sop, e] at h
      unfold scall at h
      rw [hx] at h
      simp only at h
      unfold acallD
      rw [e]
      simp only [hx]
      rw [sev_av]
      split at h
      · rename_i fid cap hxx
        rw [hxx]
        simp only [SV.av]
        obtain ⟨v, hv, hcall⟩ := hT.use (put_vr hs h)
        have e : SV.avs f ((c.args.toList.map fun x => (sev s x).ar) ++ cap.map SV.pl) = aargs G0 (SV.avs f s.env) c.args ++ (SV.avs f cap).map AV.pl := by
          rw [avs_app, avs_pl, aargs, avs_map, List.map_map]
          congr 1
          exact List.map_congr_left fun x _ => by simp only [Function.comp_apply, sev_av, av_ar]
        rw [← e]
        cases cf with
        | true => exact ACalls.useU hcall hv
        | false => exact ACalls.useD (hcall S) hv
      · cases h
    · cases hc
  · cases hc

/-- What is loaded, where it does not hang on the state. -/
theorem sopL_load {t : TypeId} {a : Operand} {o : Oper} (ho : o.op = .load t a) (hs : SR f B s.σ S) (h : den (sopL P T true o s) (KD f B K)) : ∃ c, (∀ S', aopV P G0 o (SV.avs f s.env) S' (eqK c S')) ∧ putK K (SV.avs f s.env) o.dst c S := by
  unfold sopL at h
  rw [ho] at h
  simp only at h
  split at h
  · rename_i g l k off hx
    have h1 := put_vr hs h
    have key : ∀ v : SV, (∀ KK : AV → Prop, KK (v.av f) → vr f (sload P s t (.pi g l k off)) KK) → ∀ S', aopV P G0 o (SV.avs f s.env) S' (eqK (v.av f) S') := fun v hv S' => by
      unfold aopV
      rw [ho]
      simp only
      rw [sev_av, hx]
      exact sload_pi (hv _ ⟨rfl, rfl⟩)
    cases e : sload P s t (.pi g l k off) with
    | no => rw [e] at h1; exact h1.elim
    | val v => rw [e] at h1; exact ⟨v.av f, key v (fun KK hk => by rw [e]; exact hk), h1⟩
    | req q v =>
      rw [e] at h1
      obtain ⟨rfl, h1⟩ := h1
      exact ⟨v.av f, key v (fun KK hk => by rw [e]; exact ⟨rfl, hk⟩), h1⟩
  · exact h.elim

theorem sopL_not {lf : Bool} {o : Oper} (h : lf = true → isLoad o.op = false) : sopL P T lf o s = sopD P T o s := by
  unfold sopL
  cases lf with
  | false => rfl
  | true =>
    simp only
    split
    · rename_i t a e
      have := h rfl
      rw [e] at this
      cases this
    · rfl

/-- A load through an address of the state, where it may not hang on it, is not run. -/
theorem sopL_D {lf : Bool} {o : Oper} {QX : SX → St → Prop} (h : den (sopL P T lf o s) QX) : den (sopD P T o s) QX := by
  unfold sopL at h
  cases lf with
  | false => exact h
  | true =>
    simp only at h
    split at h
    · rename_i t a e
      unfold sopD
      rw [e]
      simp only
      split at h
      · rename_i g l k off hx
        rw [hx]
        exact h
      · exact h.elim
    · exact h

theorem srgD_ok (hT : TabOK P T) {lf : Bool} {ops : List Oper} (fl : Oper → Bool) (hfl : ∀ o, isLoad o.op = true → fl o = true → lf = true) (rest : List Oper) (s : St) (S : AState) (hs : SR f B s.σ S) (h : den (srgD P T lf ops rest s) (KD f B (Q .normal))) : awD P G0 ops Q (rest.map fun o => (o, fl o)) (SV.avs f s.env) S :=
  steps_ok (ops := ops) (step := fun o rest s => sopL P T lf o s) (A := fun o rest K' e S => if isCallF o.op then acallD P G0 (fl o) o e S (putK K' e o.dst) else aopW P G0 (fl o) o e S (putK K' e o.dst)) (W := fun rest => awD P G0 ops Q (rest.map fun o => (o, fl o))) (go := srgD P T lf ops) (fun s => rfl) (fun o rest s => rfl) (fun e S => rfl) (fun o rest e S => rfl)
    (fun o rest s S K' hs h => by
      split
      · rename_i hc; exact sopD_call hT hc hs (sopL_D h)
      · rename_i hc
        have hc : isCallF o.op = false := by simpa using hc
        cases hf : fl o with
        | false => exact sopD_ok hT hc hs (sopL_D h)
        | true =>
          simp only [aopW]
          split
          · rename_i hl
            have hlf := hfl o hl hf
            subst hlf
            unfold isLoad at hl
            split at hl
            · rename_i t a e
              exact sopL_load e hs h
            · cases hl
          · exact sopD_ok hT hc hs (sopL_D h)) rest s S hs h

end Go.Proofs.Ytoofpdmdgofdcaa.X

namespace Go.Proofs.Ytoofpdmdgofdcaa.X
open Go Go.RowKit Go.Proofs.Ytoofpdmdgofdcaa.E
set_option linter.unusedVariables false
set_option linter.unusedSimpArgs false

variable {P : Program} {f : Cx} {B S : AState} {s : St} {K : AEnv → AState → Prop} {Q : AX → AEnv → AState → Prop} {T : Tab}

/-! ### What tells less -/
structure ALe (a b : AV) : Prop where
  h : ∀ (g : Gh) (v : Value), R g.S g.ρ a v → R g.S g.ρ b v ∧ (∀ s, OwnOK g s a v → OwnOK g s b v) ∧ ∀ i, TopOwn g i a v → TopOwn g i b v

theorem ALe.refl (a : AV) : ALe a a := ⟨fun g v h => ⟨h, fun _ h => h, fun _ h => h⟩⟩
theorem ALe.trans {a b c : AV} (h : ALe a b) (h' : ALe b c) : ALe a c := ⟨fun g v hr =>
  have k := h.h g v hr
  have k' := h'.h g v k.1
  ⟨k'.1, fun s o => k'.2.1 s (k.2.1 s o), fun i o => k'.2.2 i (k.2.2 i o)⟩⟩
theorem ALe.u (a : AV) : ALe a .u := ⟨fun g v h => ⟨.u v, fun _ _ => trivial, fun _ _ => ⟨trivial, fun cs vs e => by cases e⟩⟩⟩
theorem ALe.pl (a : AV) : ALe a a.pl := ⟨fun g v h => ⟨h.pl, fun _ _ => ownOK_pl _ _ _ _, fun _ _ => topOwn_pl _ _ _ _⟩⟩
theorem ALe.nil (o : Ow) : ALe (.sl .nil 0 []) (.sl o 0 []) := ⟨fun g v h => by
  cases h with
  | sl0 => exact ⟨.sl0 o, fun s _ => by cases o <;> trivial, fun i _ => ⟨by cases o <;> trivial, fun cs vs e => by cases e⟩⟩
  | sl o' ho => exact absurd rfl ho⟩

def LeL (l l' : List AV) : Prop := l'.length = l.length ∧ ∀ (i : Nat) a b, l[i]? = some a → l'[i]? = some b → ALe a b
def LeO : AObj → AObj → Prop
  | .cells a, .cells b => LeL a b
  | a, b => a = b
def LeS (l l' : AState) : Prop := l'.length = l.length ∧ ∀ (i : Nat) a b, l[i]? = some a → l'[i]? = some b → LeO a b

theorem LeL.refl (l : List AV) : LeL l l := ⟨rfl, fun i a b h h' => by rw [h] at h'; cases h'; exact .refl a⟩
theorem LeL.trans {a b c : List AV} (h : LeL a b) (h' : LeL b c) : LeL a c := ⟨h'.1.trans h.1, fun i x z hx hz => by
  have hi : i < b.length := by rw [h.1]; exact (List.getElem?_eq_some_iff.1 hx).1
  exact (h.2 i x _ hx (List.getElem?_eq_getElem hi)).trans (h'.2 i _ z (List.getElem?_eq_getElem hi) hz)⟩
theorem LeO.refl (o : AObj) : LeO o o := by
  cases o with
  | cells cs => exact LeL.refl cs
  | map es => exact rfl
  | loop r es => exact rfl
  | it n a b => exact rfl
theorem LeO.trans {a b c : AObj} (h : LeO a b) (h' : LeO b c) : LeO a c := by
  cases a <;> cases b <;> simp only [LeO] at h <;> first | (cases h; done) | skip
  · cases c <;> simp only [LeO] at h' <;> first | (cases h'; done) | exact h.trans h'
  all_goals (rw [h]; exact h')
theorem LeS.refl (l : AState) : LeS l l := ⟨rfl, fun i a b h h' => by rw [h] at h'; cases h'; exact .refl a⟩
theorem LeS.trans {a b c : AState} (h : LeS a b) (h' : LeS b c) : LeS a c := ⟨h'.1.trans h.1, fun i x z hx hz => by
  have hi : i < b.length := by rw [h.1]; exact (List.getElem?_eq_some_iff.1 hx).1
  exact (h.2 i x _ hx (List.getElem?_eq_getElem hi)).trans (h'.2 i _ z (List.getElem?_eq_getElem hi) hz)⟩

theorem EnvOK.le {g : Gh} {env env' : AEnv} {tmps : Array Value} (h : EnvOK g env tmps) (hw : LeL env env') : EnvOK g env' tmps :=
  ⟨by rw [h.1, hw.1], fun i c v hc hv => by
    have hi : i < env.length := by rw [← hw.1]; exact (List.getElem?_eq_some_iff.1 hc).1
    have h1 := List.getElem?_eq_getElem hi
    have h3 := h.2 i _ v h1 hv
    have h4 := (hw.2 i _ c h1 hc).h g v h3.1
    exact ⟨h4.1, h4.2.2 i h3.2⟩⟩

theorem Sim.le {g : Gh} {σ σ' : AState} {w : World} (h : Sim g σ w) (hw : LeS σ σ') : Sim g σ' w where
  imm := h.imm
  len := by rw [h.len, hw.1]
  inj := h.inj
  own := h.own
  obj := fun id o ho => by
    have hi : id < σ.length := by rw [← hw.1]; exact (List.getElem?_eq_some_iff.1 ho).1
    have h1 := List.getElem?_eq_getElem hi
    have h2 := hw.2 id _ o h1 ho
    have h3 := h.obj id _ h1
    generalize σ[id] = a at h2 h3
    cases a with
    | cells cs =>
      cases o with
      | cells cs' =>
        obtain ⟨b1, vs, E, fr, m2, m3, m4, m5, m6, m7, m8⟩ := h3
        have h2' : LeL cs cs' := h2
        refine ⟨b1, vs, E, fr, m2, m3, by rw [m4, h2'.1], m5, m6, m7, fun j c v hc hv => ?_⟩
        have hj : j < cs.length := by rw [← h2'.1]; exact (List.getElem?_eq_some_iff.1 hc).1
        have k1 := List.getElem?_eq_getElem hj
        have k2 := m8 j _ v k1 hv
        have k3 := (h2'.2 j _ c k1 hc).h g v k2.1
        exact ⟨k3.1, k3.2.1 _ k2.2⟩
      | map es => simp [LeO] at h2
      | loop r es => simp [LeO] at h2
      | it itn its es => simp [LeO] at h2
    | map es =>
      have h2' : AObj.map es = o := h2
      subst h2'
      exact h3
    | loop r es =>
      have h2' : AObj.loop r es = o := h2
      subst h2'
      exact h3
    | it itn its es =>
      have h2' : AObj.it itn its es = o := h2
      subst h2'
      exact h3

theorem Inv.le {g0 : Gh} {w0 : World} {D : List Deferred} {env env' : AEnv} {σ σ' : AState} {a : Act} {w : World} (h : Inv g0 w0 D env σ a w) (he : LeL env env') (hs : LeS σ σ') : Inv g0 w0 D env' σ' a w := by
  obtain ⟨hd, g, hx, h1, h2⟩ := h
  exact ⟨hd, g, hx, Sim.le h1 hs, EnvOK.le h2 he⟩

theorem Inv2.le {g0 : Gh} {w0 : World} {D : List Deferred} {env env' : AEnv} {σ σ' : AState} {a : Act} {w : World} (h : Inv2 g0 w0 D env σ a w) (he : LeL env env') (hs : LeS σ σ') : Inv2 g0 w0 D env' σ' a w := by
  obtain ⟨g, ms, hd, hm, hx, h1, h2⟩ := h
  exact ⟨g, ms, hd, hm, hx, Sim.le h1 hs, EnvOK.le h2 he⟩

theorem AWp.le {rs : Option Nat → Prop} {G : Nat → AV} {c : Code} {env env' : AEnv} {σ σ' : AState} (h : AWp P rs G c Q env' σ') (he : LeL env env') (hs : LeS σ σ') : AWp P rs G c Q env σ :=
  fun g0 w0 D r n a w hr h1 h2 h3 => h g0 w0 D r n a w hr h1 h2 (Inv.le h3 he hs)

/-- A loop, whose state is told no more than so. -/
theorem AWp.loopL {rs : Option Nat → Prop} {G : Nat → AV} {α : Type} {c : Code} {env : AEnv} {σ : AState} (inv : α → Prop) (μ : α → Nat) (I : α → AEnv) (J : α → AState) (x0 : α) (h0 : inv x0) (he : LeL env (I x0)) (hs : LeS σ (J x0))
    (round : ∀ x, inv x → AWp P rs G c (thenQ (fun e s => ∃ y, inv y ∧ μ y < μ x ∧ LeL e (I y) ∧ LeS s (J y)) Q) (I x) (J x)) : AWp P rs G (.loop c) Q env σ := fun g0 w0 D r n a w hr h1 h2 h3 => by
  refine wpIn_loop_ghost (fun m a w => ∃ x, inv x ∧ μ x = m ∧ Inv2 g0 w0 D (I x) (J x) a w) (μ x0) ⟨x0, h0, rfl, Inv2.le h3.two he hs⟩ ?_
  rintro m a w ⟨x, k1, rfl, k2⟩
  refine wpIn_mono ((round x k1).two hr h1 h2 k2) fun e a' w' q => ?_
  cases e with
  | normal =>
    obtain ⟨e, s, ⟨x', q1, q2, q3, q4⟩, q5⟩ := q
    exact ⟨μ x', q2, x', q1, rfl, Inv2.le q5 q3 q4⟩
  | exit id => exact q
  | goto l => exact q
  | ret => exact q
  | panic ch => exact q
  | outgrown => exact q

/-! ### States that tell less -/
def LeSO (f : Cx) (σ σ' : List SO) : Prop := σ'.length = σ.length ∧ ∀ (k : Nat) o o', σ[k]? = some o → σ'[k]? = some o' → LeO (o.ao f) (o'.ao f)
def StLe (s s' : St) : Prop := ∀ f, LeL (SV.avs f s.env) (SV.avs f s'.env) ∧ LeSO f s.σ s'.σ

theorem LeSO.refl (f : Cx) (σ : List SO) : LeSO f σ σ := ⟨rfl, fun k a b h h' => by rw [h] at h'; cases h'; exact .refl _⟩
theorem LeSO.trans {f : Cx} {a b c : List SO} (h : LeSO f a b) (h' : LeSO f b c) : LeSO f a c := ⟨h'.1.trans h.1, fun i x z hx hz => by
  have hi : i < b.length := by rw [h.1]; exact (List.getElem?_eq_some_iff.1 hx).1
  exact (h.2 i x _ hx (List.getElem?_eq_getElem hi)).trans (h'.2 i _ z (List.getElem?_eq_getElem hi) hz)⟩
theorem StLe.refl (s : St) : StLe s s := fun f => ⟨.refl _, .refl f _⟩
theorem StLe.trans {a b c : St} (h : StLe a b) (h' : StLe b c) : StLe a c := fun f => ⟨(h f).1.trans (h' f).1, (h f).2.trans (h' f).2⟩

/-- The objects, put one by one. -/
theorem SR.le_aux {σ σ' : List SO} (hl : LeSO f σ σ') : ∀ (n : Nat) {S : AState}, n ≤ σ.length → SR f B σ S → ∃ S', LeS S S' ∧ SR f B (σ'.take n ++ σ.drop n) S'
  | 0, S, _, hs => ⟨S, .refl S, by simpa using hs⟩
  | n + 1, S, hn, hs => by
    obtain ⟨S', h1, h2⟩ := SR.le_aux hl n (by omega) hs
    have hlt : n < σ'.length := by rw [hl.1]; omega
    have hlen : (σ'.take n ++ σ.drop n).length = σ.length := by simp [hl.1]; omega
    have hat : (σ'.take n ++ σ.drop n)[n]? = some σ[n] := by
      rw [List.getElem?_append_right (by simp; omega)]
      simp [Nat.min_eq_left (Nat.le_of_lt hlt)]
    have h3 := h2.set (k := n) (by rw [hlen]; omega) σ'[n]
    have e : (σ'.take n ++ σ.drop n).set n σ'[n] = σ'.take (n + 1) ++ σ.drop (n + 1) := by
      apply List.ext_getElem?
      intro i
      by_cases hi : n = i
      · subst hi
        rw [List.getElem?_set_self (by rw [hlen]; omega), List.getElem?_append_left (by simp; omega), List.getElem?_take_of_lt (by omega), List.getElem?_eq_getElem hlt]
      · rw [List.getElem?_set_ne hi]
        rcases Nat.lt_or_ge i n with h | h
        · rw [List.getElem?_append_left (by simp; omega), List.getElem?_append_left (by simp; omega), List.getElem?_take_of_lt h, List.getElem?_take_of_lt (by omega)]
        · rw [List.getElem?_append_right (by simp; omega), List.getElem?_append_right (by simp; omega)]
          simp only [List.length_take, Nat.min_eq_left (Nat.le_of_lt hlt), Nat.min_eq_left (Nat.succ_le_of_lt hlt), List.getElem?_drop]
          congr 1
          omega
    rw [e] at h3
    refine ⟨_, h1.trans ⟨by rw [List.length_set], fun i a b ha hb => ?_⟩, h3⟩
    by_cases hi : f n = i
    · subst hi
      have h4 := h2.obj n _ hat
      rw [h4] at ha
      rw [List.getElem?_set_self (List.getElem?_eq_some_iff.1 h4).1] at hb
      cases ha
      cases hb
      exact hl.2 n _ _ (List.getElem?_eq_getElem (by omega)) (List.getElem?_eq_getElem hlt)
    · rw [List.getElem?_set_ne hi] at hb
      rw [ha] at hb
      cases hb
      exact .refl _

theorem SR.le {σ σ' : List SO} (hl : LeSO f σ σ') (hs : SR f B σ S) : ∃ S', LeS S S' ∧ SR f B σ' S' := by
  obtain ⟨S', h1, h2⟩ := SR.le_aux hl σ.length (Nat.le_refl _) hs
  rw [List.drop_length, List.append_nil, List.take_of_length_le (by rw [hl.1]; exact Nat.le_refl _)] at h2
  exact ⟨S', h1, h2⟩

/-- How a piece of code is left. -/
def axOf : SX → AX
  | .normal => .normal
  | .exit i => .exit i
  | .ret => .ret

/-- What is asked of a piece's end. -/
def QD (f : Cx) (B : AState) (Q : AX → AEnv → AState → Prop) : SX → St → Prop := fun x s' => ∀ e S1 S2, LeL e (SV.avs f s'.env) → LeS S1 S2 → SR f B s'.σ S2 → Q (axOf x) e S1

theorem QD.le {x : SX} {s s' : St} (h : QD f B Q x s') (hl : StLe s s') : QD f B Q x s := fun e S1 S2 h1 h2 h3 => by
  obtain ⟨S3, k1, k2⟩ := SR.le (hl f).2 h3
  exact h e S1 S3 (h1.trans (hl f).1) (h2.trans k1) k2

/-! ### What was not written is as it was -/
def AgO (k : Nat) (cl : List (Nat × Nat)) : SO → SO → Prop
  | .cells cs, .cells cs' => cs'.length = cs.length ∧ ∀ off, (k, off) ∉ cl → cs'[off]? = cs[off]?
  | .vec g l, o' => (∃ l', o' = .vec g l') ∧ ((∀ off, (k, off) ∉ cl) → o' = .vec g l)
  | _, _ => False

structure Ag (a b : St) : Prop where
  wl : ∀ j, j ∈ a.wl → j ∈ b.wl
  cl : ∀ p, p ∈ a.cl → p ∈ b.cl
  len : b.env.length = a.env.length
  env : ∀ j, j ∉ b.wl → b.env[j]? = a.env[j]?
  obj : ∀ (k : Nat) o, a.σ[k]? = some o → ∃ o', b.σ[k]? = some o' ∧ AgO k b.cl o o'
  nil : b.cl = [] → b.σ = a.σ

theorem sub_nil {α : Type} {a b : List α} (h : ∀ p, p ∈ a → p ∈ b) (hb : b = []) : a = [] := by
  cases a with
  | nil => rfl
  | cons x l => have := h x List.mem_cons_self; rw [hb] at this; cases this

theorem AgO.refl (k : Nat) (cl : List (Nat × Nat)) (o : SO) : AgO k cl o o := by
  cases o with
  | cells cs => exact ⟨rfl, fun _ _ => rfl⟩
  | vec g l => exact ⟨⟨l, rfl⟩, fun _ => rfl⟩
theorem AgO.trans {k : Nat} {cl cl' : List (Nat × Nat)} (hc : ∀ p, p ∈ cl → p ∈ cl') {a b c : SO} (h : AgO k cl a b) (h' : AgO k cl' b c) : AgO k cl' a c := by
  cases a with
  | cells cs =>
    cases b with
    | cells cs' =>
      cases c with
      | cells cs'' => exact ⟨h'.1.trans h.1, fun off ho => (h'.2 off ho).trans (h.2 off fun e => ho (hc _ e))⟩
      | vec g l => exact h'.elim
    | vec g l => exact h.elim
  | vec g l =>
    obtain ⟨⟨l', rfl⟩, h2⟩ := h
    obtain ⟨⟨l'', rfl⟩, h4⟩ := h'
    refine ⟨⟨l'', rfl⟩, fun hn => ?_⟩
    rw [h4 hn, h2 fun off e => hn off (hc _ e)]
theorem Ag.refl (s : St) : Ag s s := ⟨fun _ h => h, fun _ h => h, rfl, fun _ _ => rfl, fun k o h => ⟨o, h, .refl _ _ _⟩, fun _ => rfl⟩
theorem Ag.trans {a b c : St} (h : Ag a b) (h' : Ag b c) : Ag a c where
  wl := fun j e => h'.wl j (h.wl j e)
  cl := fun p e => h'.cl p (h.cl p e)
  len := h'.len.trans h.len
  env := fun j hj => (h'.env j hj).trans (h.env j fun e => hj (h'.wl j e))
  obj := fun k o ho => by
    obtain ⟨o', h1, h2⟩ := h.obj k o ho
    obtain ⟨o'', h3, h4⟩ := h'.obj k o' h1
    exact ⟨o'', h3, h2.trans h'.cl h4⟩
  nil := fun e => (h'.nil e).trans (h.nil (sub_nil h'.cl e))
theorem Ag.set (s : St) (d : Nat) (v : SV) : Ag s (s.set d v) where
  wl := fun j e => List.mem_cons_of_mem _ e
  cl := fun p e => e
  len := List.length_set
  env := fun j hj => List.getElem?_set_ne fun e => hj (by rw [← e]; exact List.mem_cons_self)
  obj := fun k o ho => ⟨o, ho, .refl _ _ _⟩
  nil := fun _ => rfl
theorem Ag.put (s : St) (d : Option Tmp) (v : SV) : Ag s (s.put d v) := by
  cases d with
  | none => exact .refl s
  | some d => exact .set s d v
theorem Ag.setPl (s : St) (x : Operand) : Ag s (s.setPl x) := by
  unfold St.setPl
  cases x with
  | tmp t => simp only; split <;> first | exact .set _ _ _ | exact .refl s
  | _ => exact .refl s
theorem Ag.new (s : St) (o : SO) : Ag s (s.new o) where
  wl := fun j e => e
  cl := fun p e => List.mem_cons_of_mem _ e
  len := rfl
  env := fun j _ => rfl
  nil := fun e => by cases e
  obj := fun k o' ho => ⟨o', by simp only [St.new]; rw [List.getElem?_append_left (List.getElem?_eq_some_iff.1 ho).1]; exact ho, .refl _ _ _⟩
theorem Ag.obj1 (s : St) (id : Nat) (o o' : SO) (cl : List (Nat × Nat)) (hc : ∀ p, p ∈ s.cl → p ∈ cl) (ho : s.σ[id]? = some o) (h : AgO id cl o o') (hnil : cl = [] → o' = o) : Ag s { s with σ := s.σ.set id o', cl := cl } where
  nil := fun e => by
    have := set_same s.σ id o
    rw [List.getD_eq_getElem?_getD, ho] at this
    rw [hnil e]
    exact this
  wl := fun j e => e
  cl := hc
  len := rfl
  env := fun j _ => rfl
  obj := fun k ok hk => by
    by_cases e : id = k
    · subst e
      rw [ho] at hk
      cases hk
      exact ⟨o', List.getElem?_set_self (List.getElem?_eq_some_iff.1 ho).1, h⟩
    · exact ⟨ok, by simp only; rw [List.getElem?_set_ne e]; exact hk, .refl _ _ _⟩
theorem Ag.setC (s : St) (id off : Nat) (cs : List SV) (v : SV) (ho : s.σ[id]? = some (.cells cs)) : Ag s (s.setC id off cs v) :=
  .obj1 s id (.cells cs) _ _ (fun p e => List.mem_cons_of_mem _ e) ho ⟨List.length_set, fun o hn => List.getElem?_set_ne fun e => hn (by rw [← e]; exact List.mem_cons_self)⟩ (fun e => by cases e)
theorem Ag.setV (s : St) (id : Nat) (g : GT) (l l' : List g.T) (ho : s.σ[id]? = some (.vec g l)) : Ag s (s.setV id g l') :=
  .obj1 s id (.vec g l) _ _ (fun p e => List.mem_cons_of_mem _ e) ho ⟨⟨l', rfl⟩, fun hn => absurd List.mem_cons_self (hn 0)⟩ (fun e => by cases e)

theorem ssetN_len : ∀ (vs cs : List SV) (off : Nat), (ssetN cs off vs).length = cs.length
  | [], cs, off => rfl
  | v :: vs, cs, off => by simp only [ssetN]; rw [ssetN_len, List.length_set]
theorem ssetN_ne : ∀ (vs cs : List SV) (off i : Nat), (∀ j, j < vs.length → off + j ≠ i) → (ssetN cs off vs)[i]? = cs[i]?
  | [], cs, off, i, h => rfl
  | v :: vs, cs, off, i, h => by
    simp only [ssetN]
    rw [ssetN_ne vs _ (off + 1) i (fun j hj => by have := h (j + 1) (by simp; omega); omega), List.getElem?_set_ne (by simpa using h 0 (by simp))]
theorem Ag.setA (s : St) (id off : Nat) (cs vs : List SV) (n : Nat) (hn : vs.length = n) (ho : s.σ[id]? = some (.cells cs)) : Ag s { s with σ := s.σ.set id (.cells (ssetN cs off vs)), cl := (List.range n).map (fun j => (id, off + j)) ++ s.cl } :=
  .obj1 s id (.cells cs) _ _ (fun p e => List.mem_append_right _ e) ho ⟨ssetN_len _ _ _, fun o hno => ssetN_ne _ _ _ _ fun j hj e => hno (List.mem_append_left _ (List.mem_map.2 ⟨j, List.mem_range.2 (by omega), by rw [e]⟩))⟩ (fun e => by
    have h0 := (List.append_eq_nil_iff.1 e).1
    have h1 : n = 0 := by simpa using h0
    rw [List.eq_nil_of_length_eq_zero (hn.trans h1)]
    rfl)

/-! ### All ends of a piece -/
def allL (A : SX → St → Prop) : Tree → Prop
  | .stuck => True
  | .leaf x s => A x s
  | .req _ t => allL A t
  | .ite _ a b => allL A a ∧ allL A b

theorem den_all {A QX : SX → St → Prop} {t : Tree} (h : den t QX) (ha : allL A t) : den t (fun x s => QX x s ∧ A x s) := by
  induction t with
  | stuck => exact h
  | leaf x s => exact ⟨h, ha⟩
  | req g t ih => exact ⟨h.1, ih h.2 ha⟩
  | ite c a b iha ihb => exact ⟨fun e => iha (h.1 e) ha.1, fun e => ihb (h.2 e) ha.2⟩
theorem allL_mono {A A' : SX → St → Prop} {t : Tree} (h : allL A t) (hk : ∀ x s, A x s → A' x s) : allL A' t := by
  induction t with
  | stuck => trivial
  | leaf x s => exact hk x s h
  | req g t ih => exact ih h
  | ite c a b iha ihb => exact ⟨iha h.1, ihb h.2⟩
theorem allL_bind {A A' : SX → St → Prop} {t : Tree} {k : St → Tree} (h : allL A t) (hn : ∀ s, A .normal s → allL A' (k s)) (hx : ∀ x s, A x s → x ≠ .normal → A' x s) : allL A' (t.bind k) := by
  induction t with
  | stuck => trivial
  | leaf x s =>
    cases x with
    | normal => exact hn s h
    | exit i => exact hx _ s h (by simp)
    | ret => exact hx _ s h (by simp)
  | req g t ih => exact ih h
  | ite c a b iha ihb => exact ⟨iha h.1, ihb h.2⟩

def AgN (s : St) : SX → St → Prop := fun x s' => x = .normal ∧ Ag s s'

theorem vr_ag (r : VR) (s : St) (d : Option Tmp) : allL (AgN s) (r.put s d) := by
  cases r with
  | no => trivial
  | val v => exact ⟨rfl, .put _ _ _⟩
  | req g v => exact ⟨rfl, .put _ _ _⟩

theorem sop_ag (rest : List Oper) (o : Oper) (s : St) : allL (AgN s) (sop P T rest o s) := by
  have pp : ∀ (x : Operand) (d : Option Tmp) (v : SV), AgN s .normal ((s.setPl x).put d v) := fun x d v => ⟨rfl, (Ag.setPl s x).trans (.put _ _ _)⟩
  have np : ∀ (o : SO) (d : Option Tmp) (v : SV), AgN s .normal ((s.new o).put d v) := fun o d v => ⟨rfl, (Ag.new s o).trans (.put _ _ _)⟩
  have pt : ∀ (d : Option Tmp) (v : SV), AgN s .normal (s.put d v) := fun d v => ⟨rfl, .put _ _ _⟩
  unfold sop
  split
  · exact pp _ _ _
  · split
    · exact pp _ _ _
    · exact pt _ _
  · split
    · split
      · split
        · trivial
        · split
          · split
            · rename_i cs hc
              split
              · rename_i c hcc
                split
                · refine ⟨rfl, ?_⟩
                  split
                  · exact (Ag.setC s _ _ cs _ hc).trans (.put _ _ _)
                  · exact .put _ _ _
                · trivial
              · trivial
            · trivial
          · trivial
      · trivial
    · exact vr_ag _ _ _
  · split
    · exact np _ _ _
    · trivial
  · unfold sbox
    split
    · exact np _ _ _
    · split
      · exact ⟨rfl, (Ag.setPl s _).trans ((Ag.new _ _).trans (.put _ _ _))⟩
      · trivial
  · exact vr_ag _ _ _
  · exact vr_ag _ _ _
  · split
    · unfold sstore
      split
      · split
        · rename_i cs hc
          split
          · split
            · exact ⟨rfl, .setA s _ _ cs _ _ (by rw [List.length_map]) hc⟩
            · trivial
          · split
            · exact ⟨rfl, (Ag.setPl s _).trans (.setC _ _ _ _ _ (by rw [setPl_σ]; exact hc))⟩
            · trivial
        · trivial
      · split
        · rename_i g l hc
          split
          · split
            · split
              · exact ⟨rfl, .setV s _ g l _ hc⟩
              · trivial
            · trivial
          · trivial
        · trivial
      · trivial
    · trivial
  · split <;> first | exact pt _ _ | trivial
  · exact vr_ag _ _ _
  · exact vr_ag _ _ _
  · exact vr_ag _ _ _
  · split
    · exact pt _ _
    · trivial
  · unfold smake
    split
    · split
      · split
        · split
          · split
            · exact np _ _ _
            · trivial
          · trivial
        · trivial
      · trivial
    · trivial
  · exact vr_ag _ _ _
  · exact vr_ag _ _ _
  · exact vr_ag _ _ _
  · exact vr_ag _ _ _
  · exact vr_ag _ _ _
  · unfold sextract
    split
    · split
      · split
        · split
          · trivial
          · trivial
          · refine ⟨rfl, ?_⟩
            split
            · exact (Ag.set s _ _).trans (.put _ _ _)
            · exact .put _ _ _
        · trivial
      · trivial
    · trivial
  · unfold spick
    split
    · exact pt _ _
    · exact pt _ _
    · exact ⟨pt _ _, pt _ _⟩
    · trivial
  · split
    · split
      · split
        · exact vr_ag _ _ _
        · trivial
      · split
        · split
          · exact pt _ _
          · trivial
        · trivial
      · split
        · split
          · exact pt _ _
          · trivial
        · trivial
      · unfold sappend
        split
        · split
          · trivial
          · split
            · split
              · split
                · split
                  · split
                    · exact pp _ _ _
                    · split
                      · exact pp _ _ _
                      · trivial
                    · trivial
                  · trivial
                · trivial
              · trivial
            · trivial
          · trivial
        · trivial
      · trivial
    · unfold scall
      split
      · split
        · exact vr_ag _ _ _
        · trivial
      · trivial
  · trivial

theorem sopD_ag (o : Oper) (s : St) : allL (AgN s) (sopD P T o s) := by
  have np : ∀ (o : SO) (d : Option Tmp) (v : SV), AgN s .normal ((s.new o).put d v) := fun o d v => ⟨rfl, (Ag.new s o).trans (.put _ _ _)⟩
  have pt : ∀ (d : Option Tmp) (v : SV), AgN s .normal (s.put d v) := fun d v => ⟨rfl, .put _ _ _⟩
  have hst : ∀ t a x, allL (AgN s) (sstore P s t a x) := fun t a x => by
    unfold sstore
    split
    · split
      · rename_i cs hc
        split
        · split
          · exact ⟨rfl, .setA s _ _ cs _ _ (by rw [List.length_map]) hc⟩
          · trivial
        · split
          · exact ⟨rfl, (Ag.setPl s _).trans (.setC _ _ _ _ _ (by rw [setPl_σ]; exact hc))⟩
          · trivial
      · trivial
    · split
      · rename_i g l hc
        split
        · split
          · split
            · exact ⟨rfl, .setV s _ g l _ hc⟩
            · trivial
          · trivial
        · trivial
      · trivial
    · trivial
  unfold sopD
  split
  · exact pt _ _
  · exact pt _ _
  · exact vr_ag _ _ _
  · split
    · exact np _ _ _
    · split
      · exact np _ _ _
      · trivial
  · split
    · split
      · exact hst _ _ _
      · split
        · exact hst _ _ _
        · split
          · split
            · rename_i cs hc
              split
              · exact ⟨rfl, .setC s _ _ cs _ hc⟩
              · trivial
            · trivial
          · trivial
    · trivial
  · split
    · split
      · exact pt _ _
      · trivial
    · trivial
  · split
    · trivial
    · exact sop_ag _ _ _

theorem sopL_ag (lf : Bool) (o : Oper) (s : St) : allL (AgN s) (sopL P T lf o s) := by
  unfold sopL
  split
  · exact sopD_ag _ _
  · split
    · split
      · exact vr_ag _ _ _
      · trivial
    · exact sopD_ag _ _

theorem steps_ag {ops : List Oper} {step : Oper → List Oper → St → Tree} {go : List Oper → St → Tree}
    (hgo0 : ∀ s, go [] s = ok s) (hgo : ∀ o rest s, go (o :: rest) s = match o.guard with
    | none => (step o rest s).bind (go rest)
    | some (j, want) => match (ops[j]?).bind (·.dst) with
      | some t => match s.get t with
        | .tt => match want with
          | true => (step o rest s).bind (go rest)
          | false => go rest (s.put o.dst (.tup []))
        | .ff => match want with
          | false => (step o rest s).bind (go rest)
          | true => go rest (s.put o.dst (.tup []))
        | .tup [] => go rest (s.put o.dst (.tup []))
        | .b x => match want with
          | true => .ite x ((step o rest (s.set t .tt)).bind (go rest)) (go rest ((s.set t .ff).put o.dst (.tup [])))
          | false => .ite x (go rest ((s.set t .tt).put o.dst (.tup []))) ((step o rest (s.set t .ff)).bind (go rest))
        | _ => .stuck
      | none => .stuck)
    (hstep : ∀ o rest s, allL (AgN s) (step o rest s)) : ∀ (rest : List Oper) (s : St), allL (AgN s) (go rest s) := by
  intro rest
  induction rest with
  | nil => intro s; rw [hgo0]; exact ⟨rfl, .refl s⟩
  | cons o rest ih =>
    intro s0
    have more : ∀ s, Ag s0 s → allL (AgN s0) (go rest s) := fun s h => allL_mono (ih s) fun x s' k => ⟨k.1, h.trans k.2⟩
    have st1 : ∀ s, Ag s0 s → allL (AgN s0) ((step o rest s).bind (go rest)) := fun s h =>
      allL_bind (hstep o rest s) (fun s' k => more s' (h.trans k.2)) (fun x s' k hn => absurd k.1 hn)
    rw [hgo]
    split
    · exact st1 _ (.refl _)
    · split
      · split
        · split
          · exact st1 _ (.refl _)
          · exact more _ (.put _ _ _)
        · split
          · exact st1 _ (.refl _)
          · exact more _ (.put _ _ _)
        · exact more _ (.put _ _ _)
        · split
          · exact ⟨st1 _ (.set _ _ _), more _ ((Ag.set _ _ _).trans (.put _ _ _))⟩
          · exact ⟨more _ ((Ag.set _ _ _).trans (.put _ _ _)), st1 _ (.set _ _ _)⟩
        · trivial
      · trivial

theorem srg_ag (ops rest : List Oper) (s : St) : allL (AgN s) (srg P T ops rest s) :=
  steps_ag (ops := ops) (step := fun o rest s => sop P T rest o s) (go := srg P T ops) (fun s => rfl) (fun o rest s => rfl) (fun o rest s => sop_ag rest o s) rest s
theorem srgD_ag (lf : Bool) (ops rest : List Oper) (s : St) : allL (AgN s) (srgD P T lf ops rest s) :=
  steps_ag (ops := ops) (step := fun o rest s => sopL P T lf o s) (go := srgD P T lf ops) (fun s => rfl) (fun o rest s => rfl) (fun o rest s => sopL_ag lf o s) rest s
theorem wipe_ag : ∀ (l : List Oper) (s : St), Ag s (wipe l s)
  | [], s => .refl s
  | o :: r, s => by
    simp only [wipe]
    refine Ag.trans ?_ (wipe_ag r _)
    split
    · split
      · exact .set _ _ _
      · exact .refl _
    · exact .refl _
theorem srgA_ag (ops : List Oper) (m : Nat) (s : St) : allL (AgN s) (srgA P T ops m s) := by
  have go : ∀ (s0 : St) (k : St → Tree), Ag s s0 → (∀ s1, Ag s s1 → allL (AgN s) (k s1)) → allL (AgN s) ((srgD P T (cfOf (ops.take m)).2 (ops.take m) (ops.take m) s0).bind k) := fun s0 k h0 hk =>
    allL_bind (srgD_ag _ _ _ s0) (fun s' q => hk s' (h0.trans q.2)) (fun x s' q hn => absurd q.1 hn)
  have suf : ∀ s1, Ag s s1 → allL (AgN s) (srg P T ops (ops.drop m) s1) := fun s1 h => allL_mono (srg_ag _ _ s1) fun x s'' k' => ⟨k'.1, h.trans k'.2⟩
  unfold srgA
  split
  · split
    · split
      · split
        · exact go _ _ (.set _ _ _) fun s1 h1 => by
            split
            · exact suf _ (((h1.trans (.set _ _ _)).trans (.set _ _ _)).trans (wipe_ag _ _))
            · trivial
        · trivial
      · split
        · split
          · rename_i cs hcs
            split
            · split
              · exact go _ _ (.setC _ _ _ cs _ hcs) fun s1 h1 => by
                  split
                  · rename_i cs1 hcs1
                    split
                    · exact suf _ (((h1.trans (.setC _ _ _ cs1 _ hcs1)).trans (.set _ _ _)).trans (wipe_ag _ _))
                    · trivial
                  · trivial
              · trivial
            · trivial
          · trivial
        · trivial
      · trivial
    · trivial
  · trivial
theorem srgU_ag (ops : List Oper) (s : St) : allL (AgN s) (srgU P T ops s) := by
  unfold srgU
  split
  · split
    · exact srgA_ag _ _ _
    · trivial
  · split
    · exact srgD_ag _ _ _ s
    · trivial
end Go.Proofs.Ytoofpdmdgofdcaa.X
