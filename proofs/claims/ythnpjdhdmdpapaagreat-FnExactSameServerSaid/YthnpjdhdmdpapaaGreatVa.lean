import Derived.Below
import Derived.Calls
import Derived.Laws.Cells
import Derived.Laws.CopyRow
import Derived.Laws.Sem
import Derived.Laws.World
import Derived.Orders
set_option linter.unusedVariables false
set_option linter.unusedSimpArgs false
set_option linter.unusedVariables false
namespace Go.Proofs.Vai
open Go

/-- Data as the evaluator has them. -/
inductive D where
  | i (k : IntKind) (n : Int)
  | b (t : Bool)
  | s (x : ByteArray)
  | nilp
  | sl (own : Bool) (w : Nat) (els : List (List D))
  | pt (cells : List D)
  | fn (f : Nat) (caps : List D)
  | mp (es : List (D × D))
  | al (k j : Nat) (st : Option (Nat × Nat)) (n : Nat)
  | bp (k off n : Nat)
  | el (k j : Nat) (st : Option (Nat × Nat)) (i off n : Nat)
  | und
  | dead

/-- How often a block is owned. -/
abbrev Fp := Nat → Nat
def zF : Fp := fun _ => 0
def oneF (b : Nat) : Fp := fun x => if x = b then 1 else 0
def addF (F G : Fp) : Fp := fun x => F x + G x
theorem zF_ap (x : Nat) : zF x = 0 := rfl
theorem oneF_ap (b x : Nat) : oneF b x = if x = b then 1 else 0 := rfl
theorem addF_ap (F G : Fp) (x : Nat) : addF F G x = F x + G x := rfl
theorem oneF_self (b : Nat) : oneF b b = 1 := by simp [oneF]
theorem addF_z (F : Fp) : addF F zF = F := by funext x; simp [addF, zF]
theorem z_addF (F : Fp) : addF zF F = F := by funext x; simp [addF, zF]
theorem addF_assoc (F G H : Fp) : addF (addF F G) H = addF F (addF G H) := by funext x; simp [addF, Nat.add_assoc]
theorem addF_comm (F G : Fp) : addF F G = addF G F := by funext x; simp [addF, Nat.add_comm]
theorem addF_left_comm (F G H : Fp) : addF F (addF G H) = addF G (addF F H) := by funext x; simp [addF]; omega

/-- The value of a plain datum that is a map's key or element. -/
def primV : D → Option Value
  | .i k n => some (.int k n)
  | .b t => some (.bool t)
  | .s x => some (.string x)
  | _ => none

mutual
/-- 'v reads as d': no aliases inside. I: the blocks that stay as they are; F: the blocks that d owns. -/
def NRel (I : Nat → Prop) (w : World) : D → Value → Fp → Prop
  | .i k n, v, F => v = .int k n ∧ F = zF
  | .b t, v, F => v = .bool t ∧ F = zF
  | .s x, v, F => v = .string x ∧ F = zF
  | .nilp, v, F => v = .pointer none ∧ F = zF
  | .sl true wd els, v, F => ∃ a cap, v = .slice a els.length cap ∧ els.length ≤ cap ∧
      ((cap = 0 ∧ F = zF) ∨ ∃ b o cs T F', a = some ⟨b, o, none⟩ ∧ 0 < wd ∧ w.heap[b]? = some (.cells cs T (0, 0)) ∧ o + cap * wd ≤ cs.size ∧
        RRel I w wd (fun k => cs[k]?) els o F' ∧ F = addF (oneF b) F')
  | .sl false wd els, v, F => F = zF ∧ ∃ a cap, v = .slice a els.length cap ∧ els.length ≤ cap ∧
      (els = [] ∨ ∃ b o cs T fr, a = some ⟨b, o, none⟩ ∧ I b ∧ w.heap[b]? = some (.cells cs T fr) ∧ RRel I w wd (fun k => cs[k]?) els o zF)
  | .pt cells, v, F => F = zF ∧ ∃ b o cs T fr, v = .pointer (some ⟨b, o, none⟩) ∧ I b ∧ w.heap[b]? = some (.cells cs T fr) ∧ CRel I w (fun k => cs[k]?) cells o zF
  | .fn f caps, v, F => F = zF ∧ ∃ vs, v = .func (.func f) #[] vs ∧ CRel I w (fun k => vs[k]?) caps 0 zF ∧ vs.size = caps.length
  | .mp es, v, F => ∃ r en cl, v = .map (some r) ∧ w.heap[r]? = some (.map en cl) ∧ F = oneF r ∧
      en.toList.map (fun e => (some e.key, some e.val)) = es.map (fun p => (primV p.1, primV p.2))
  | .al _ _ _ _, _, _ => False
  | .bp _ _ _, _, _ => False
  | .el _ _ _ _ _ _, _, _ => False
  | .und, v, F => v = undef ∧ F = zF
  | .dead, _, F => F = zF
/-- Cells in a row, from o on. -/
def CRel (I : Nat → Prop) (w : World) (g : Nat → Option Value) : List D → Nat → Fp → Prop
  | [], _, F => F = zF
  | d :: ds, o, F => ∃ x F1 F2, g o = some x ∧ NRel I w d x F1 ∧ CRel I w g ds (o + 1) F2 ∧ F = addF F1 F2
/-- Rows of cells, from o on, each of wd cells. -/
def RRel (I : Nat → Prop) (w : World) (wd : Nat) (g : Nat → Option Value) : List (List D) → Nat → Fp → Prop
  | [], _, F => F = zF
  | r :: rs, o, F => ∃ F1 F2, r.length = wd ∧ CRel I w g r o F1 ∧ RRel I w wd g rs (o + wd) F2 ∧ F = addF F1 F2
end

end Go.Proofs.Vai

namespace Go.Proofs.Vai
open Go

/-- What a slot holds. -/
inductive V where
  | leaf (d : D)
  | agg (ds : List D)
  | box (ds : List D)

/-- A slot: what it holds, and three counters: writes, headers, renewals. -/
structure Sl where
  c : V
  e : Nat
  h : Nat
  x : Nat
def Sl.nil : Sl := ⟨.leaf .und, 0, 0, 0⟩
abbrev St := List Sl

/-- Programs over slots. -/
inductive Pg (α : Type) where
  | ret (a : α)
  | fail
  | rd (k : Nat) (f : Sl → Pg α)
  | wr (k : Nat) (s : Sl) (p : Pg α)
def Pg.bind {α β : Type} : Pg α → (α → Pg β) → Pg β
  | .ret a, f => f a
  | .fail, _ => .fail
  | .rd k g, f => .rd k fun s => (g s).bind f
  | .wr k s p, f => .wr k s (p.bind f)
instance : Monad Pg where
  pure := Pg.ret
  bind := Pg.bind
def Pg.run {α : Type} : Pg α → St → Option (α × St)
  | .ret a, S => some (a, S)
  | .fail, _ => none
  | .rd k f, S => match S[k]? with
    | some s => (f s).run S
    | none => none
  | .wr k s p, S => if k < S.length then p.run (S.set k s) else none
/-- The same, but it may read rs and write ws alone. -/
def Pg.runIn {α : Type} (rs ws : List Nat) : Pg α → St → Option (α × St)
  | .ret a, S => some (a, S)
  | .fail, _ => none
  | .rd k f, S => if rs.contains k then (match S[k]? with
    | some s => (f s).runIn rs ws S
    | none => none) else none
  | .wr k s p, S => if ws.contains k && decide (k < S.length) then p.runIn rs ws (S.set k s) else none
def Pg.rdd (k : Nat) : Pg Sl := .rd k .ret
def Pg.wrr (k : Nat) (s : Sl) : Pg Unit := .wr k s (.ret ())
def Pg.ofOpt {α : Type} : Option α → Pg α
  | some a => .ret a
  | none => .fail
def Pg.need (c : Bool) : Pg Unit := if c then .ret () else .fail

def own : D → Bool
  | .sl true _ _ => true
  | .mp _ => true
  | _ => false
def V.cells : V → List D
  | .leaf d => [d]
  | .agg ds => ds
  | .box ds => ds
def outAl : D → Bool
  | .al _ _ _ _ | .bp _ _ _ | .el _ _ _ _ _ _ | .fn _ _ => true
  | _ => false
/-- No alias at the top. -/
def flat : D → Bool
  | .al _ _ _ _ | .bp _ _ _ | .el _ _ _ _ _ _ | .mp _ => false
  | .fn _ caps => caps.all fun | .al _ _ _ _ | .bp _ _ _ | .el _ _ _ _ _ _ | .mp _ | .fn _ _ => false | _ => true
  | _ => true

def firm (d : D) : Bool := flat d && (match d with | .dead => false | .und => false | _ => true)
mutual
/-- What is read alone: nothing of it is owned. -/
def fl : D → D
  | .sl _ w els => .sl false w (flRows els)
  | .pt cells => .pt (flCells cells)
  | .fn f caps => .fn f (flCells caps)
  | .mp _ => .dead
  | d => d
def flCells : List D → List D
  | [] => []
  | d :: ds => fl d :: flCells ds
def flRows : List (List D) → List (List D)
  | [] => []
  | r :: rs => flCells r :: flRows rs
end
mutual
/-- All that it leads to is its own. -/
def owned : D → Bool
  | .sl o _ els => (o || els.isEmpty) && ownedRows els
  | .i _ _ => true
  | .b _ => true
  | .s _ => true
  | .nilp => true
  | .dead => true
  | .und => true
  | _ => false
def ownedCells : List D → Bool
  | [] => true
  | d :: ds => owned d && ownedCells ds
def ownedRows : List (List D) → Bool
  | [] => true
  | r :: rs => ownedCells r && ownedRows rs
end
def V.owned (v : V) : Bool := match v with
  | .box ds => ownedCells ds
  | v => ownedCells v.cells

/-- Places. -/
def plD (v : V) (j : Nat) (st : Option (Nat × Nat)) : Option D :=
  match v.cells[j]? with
  | none => none
  | some d => match st with
    | none => some d
    | some (i, l) => match d with
      | .sl true _ rows => match rows[i]? with
        | some r => r[l]?
        | none => none
      | _ => none
def inD (st : Option (Nat × Nat)) (d' : D) (d : D) : D :=
  match st with
  | none => d'
  | some (i, l) => match d with
    | .sl true w rows => .sl true w (rows.set i ((rows.getD i []).set l d'))
    | d => d
def V.setCell (v : V) (j : Nat) (f : D → D) : V :=
  match v with
  | .leaf d => .leaf (if j = 0 then f d else d)
  | .agg ds => .agg (ds.modify j f)
  | .box ds => .box (ds.modify j f)
def plSet (v : V) (j : Nat) (st : Option (Nat × Nat)) (d' : D) : V := v.setCell j (inD st d')

def Sl.up0 (s : Sl) (v : V) : Sl := ⟨v, s.e + 1, s.h, s.x⟩
def Sl.up1 (s : Sl) (v : V) : Sl := ⟨v, s.e + 1, s.h + 1, s.x⟩
def Sl.up2 (s : Sl) (v : V) : Sl := ⟨v, s.e + 1, s.h + 1, s.x + 1⟩
def Sl.ver (s : Sl) : Option (Nat × Nat) → Nat
  | none => s.h
  | some _ => s.e
inductive X where
  | t (n : Nat)
  | c (v : V)

def dupD (n : Nat) (s : Sl) (j : Nat) : D → D
  | .sl true _ _ => .al n j none s.h
  | .mp _ => .al n j none s.h
  | d => d
def dupL (n : Nat) (s : Sl) : Nat → List D → List D
  | _, [] => []
  | j, d :: ds => dupD n s j d :: dupL n s (j + 1) ds
def dupV (n : Nat) (s : Sl) : V → V
  | .leaf d => .leaf (dupD n s 0 d)
  | .agg ds => .agg (dupL n s 0 ds)
  | .box _ => .leaf (.bp n 0 s.x)
/-- Where it went. -/
def fwdD (n : Nat) (s : Sl) (j : Nat) : D → D
  | .sl true _ _ => .al n j none s.h
  | .i k n => .i k n
  | .b t => .b t
  | .s x => .s x
  | .nilp => .nilp
  | _ => .dead
def fwdL (n : Nat) (s : Sl) : Nat → List D → List D
  | _, [] => []
  | j, d :: ds => fwdD n s j d :: fwdL n s (j + 1) ds
/-- A look at an operand. -/
def getV : X → Pg V
  | .c v => .ret v
  | .t n => .rd n fun s => .ret (dupV n s s.c)
def V.one : V → Pg D
  | .leaf d => .ret d
  | _ => .fail
def V.many : V → Pg (List D)
  | .agg ds => .ret ds
  | _ => .fail
def getD (x : X) : Pg D := (getV x).bind V.one
def lookAl (k j : Nat) (st : Option (Nat × Nat)) (n : Nat) : Pg D :=
  .rd k fun s => if n = s.ver st then (match plD s.c j st with
    | some d => if own d then .ret d else .fail
    | none => .fail) else .fail
/-- The content behind an alias. -/
def deref : D → Pg D
  | .al k j st n => lookAl k j st n
  | d => .ret d
def putS (d : Nat) (v : V) : Pg Unit := .rd d fun s => .wr d (s.up2 v) (.ret ())
/-- What an alias leads to is taken away from there. -/
def takeD : D → Pg D
  | .al k j st n => (lookAl k j st n).bind fun d => .rd k fun s => .wr k (s.up0 (plSet s.c j st .dead)) (.ret d)
  | d => if flat d then .ret d else .fail
def takeL : List D → Pg (List D)
  | [] => .ret []
  | d :: ds => (takeD d).bind fun d' => (takeL ds).bind fun ds' => .ret (d' :: ds')
def killOwn (d : D) : D := if own d then .dead else d
/-- An operand is taken: what it owns goes along. -/
def takeV : X → Pg V
  | .c v => .ret v
  | .t n => .rd n fun s => match s.c with
    | .leaf d => if own d then .wr n (s.up0 (.leaf .dead)) (.ret (.leaf d)) else (takeD d).bind fun d' => .ret (.leaf d')
    | .agg ds => if ds.any own then .wr n (s.up0 (.agg (ds.map killOwn))) ((takeL ds).bind fun ds' => .ret (.agg ds')) else (takeL ds).bind fun ds' => .ret (.agg ds')
    | .box ds => .wr n (s.up2 (.leaf .dead)) (.ret (.box ds))
/-- The same, but aliases stay what they are. -/
def moveV : X → Pg V
  | .c v => .ret v
  | .t n => .rd n fun s => match s.c with
    | .leaf d => if own d then .wr n (s.up0 (.leaf .dead)) (.ret (.leaf d)) else .ret (.leaf d)
    | .agg ds => if ds.any own then .wr n (s.up0 (.agg (ds.map killOwn))) (.ret (.agg ds)) else .ret (.agg ds)
    | .box ds => .wr n (s.up2 (.leaf .dead)) (.ret (.box ds))


/-! ### Operations -/
inductive O where
  | bad
  | mv (x : X)
  | mvt (ks : List Nat)
  | asg (x : X)
  | pick (c a b : X)
  | alloc (z : List D)
  | box (x : X)
  | build (z : List D) (ps : List (Nat × Nat × X))
  | lit (w : Nat) (zr : List D) (n : Nat) (ps : List (Nat × X))
  | load (ag : Bool) (m : Nat) (x : X)
  | store (m : Nat) (a x : X)
  | nilck (x : X)
  | bin (op : BinOp) (x y : X)
  | eqc (ne : Bool) (k : Nat) (x y : X)
  | eqs (ne : Bool) (ks : List Nat) (x y : X)
  | un (op : UnOp) (x : X)
  | conv (k : IntKind) (x : X)
  | mkfn (f : Nat) (caps : List X)
  | mkmap
  | mksl (w : Nat) (zr : List D) (n : X)
  | cut0 (w : Nat) (x : X)
  | cut (w : Nat) (x : X) (lo hi : Option X)
  | cutstr (x : X) (lo hi : Option X)
  | faddr (off : Nat) (x : X)
  | field (ag : Bool) (off m : Nat) (x : X)
  | iaddr (w : Nat) (x i : X)
  | index (x i : X)
  | look (z : D) (ok : Bool) (x k : X)
  | mup (x k v : X)
  | ext (x : X)
  | call (f : Nat) (io : Option Nat) (xs : List X)
  | callv (x : X) (xs : List X)
  | len (k : Nat) (x : X)
  | app (w : Nat) (s x : X)
  | cpy (d s : X)
  | mx (xs : List X)
  | mn (xs : List X)

structure IOp where
  dst : Option Nat
  vs : List Nat
  o : O
  g : Option (Nat × Bool)
  rs : List Nat
  ws : List Nat

abbrev CallF := Nat → List V → Option (List V × List V)
def LIM : Nat := 4294967296

def V.pick (ag : Bool) (ds : List D) : Pg V :=
  if ag then .ret (.agg ds) else match ds with
    | [d] => .ret (.leaf d)
    | _ => .fail
def bitsD (op : BinOp) (k : IntKind) (x y : Int) : Int :=
  let a := BitVec.ofInt k.bits x
  let b := BitVec.ofInt k.bits y
  k.wrap (match op with
    | .and => (a &&& b).toNat
    | .or => (a ||| b).toNat
    | .xor => (a ^^^ b).toNat
    | _ => (a &&& ~~~b).toNat)
def binI (op : BinOp) (k : IntKind) (a b : Int) : Option D :=
  match op with
  | .add => some (.i k (k.wrap (a + b)))
  | .sub => some (.i k (k.wrap (a - b)))
  | .mul => some (.i k (k.wrap (a * b)))
  | .quo => if b = 0 then none else some (.i k (k.wrap (a.tdiv b)))
  | .rem => if b = 0 then none else some (.i k (a.tmod b))
  | .and | .or | .xor | .andNot => some (.i k (bitsD op k a b))
  | .eql => some (.b (a == b))
  | .neq => some (.b (a != b))
  | .lss => some (.b (a < b))
  | .leq => some (.b (a ≤ b))
  | .gtr => some (.b (a > b))
  | .geq => some (.b (a ≥ b))
  | .shl | .shr => none
def shI (op : BinOp) (k : IntKind) (a b : Int) : Option D :=
  if b < 0 then none else match op with
    | .shl => some (.i k (k.wrap (a * 2 ^ (min b.toNat k.bits))))
    | .shr => some (.i k (a.fdiv (2 ^ (min b.toNat k.bits))))
    | _ => none
def binS (op : BinOp) (x y : ByteArray) : Option D :=
  match op with
  | .eql => some (.b (x.toList == y.toList))
  | .neq => some (.b !(x.toList == y.toList))
  | .lss => some (.b (Op.bytesLess x.toList y.toList))
  | .leq => some (.b (Op.bytesLess x.toList y.toList || x.toList == y.toList))
  | .gtr => some (.b !(Op.bytesLess x.toList y.toList || x.toList == y.toList))
  | .geq => some (.b !(Op.bytesLess x.toList y.toList))
  | .add => if x.size + y.size ≤ LIM then some (.s (x ++ y)) else none
  | _ => none
def isPtr : D → Bool
  | .pt _ | .bp _ _ _ | .el _ _ _ _ _ _ => true
  | _ => false
def binD (op : BinOp) (x y : D) : Option D :=
  match x, y with
  | .i k a, .i k' b => match op with
    | .shl | .shr => shI op k a b
    | _ => if k = k' then binI op k a b else none
  | .s a, .s b => binS op a b
  | _, _ => none
def eqD : D → D → Option Bool
  | .i k a, .i k' b => if k = k' then some (a == b) else none
  | .b a, .b b => some (a == b)
  | .s a, .s b => some (a == b)
  | _, _ => none
def eqCells : List D → List D → Option Bool
  | [], [] => some true
  | x :: xs, y :: ys => match eqD x y, eqCells xs ys with
    | some a, some b => some (a && b)
    | _, _ => none
  | _, _ => none
def unD (op : UnOp) (x : D) : Option D :=
  match op, x with
  | .neg, .i k n => some (.i k (k.wrap (0 - n)))
  | .not, .b t => some (.b !t)
  | _, _ => none
def getDs : List X → Pg (List D)
  | [] => .ret []
  | x :: xs => (getD x).bind fun v => (getDs xs).bind fun vs => .ret (v :: vs)
def V.data : V → List D
  | .leaf d => [d]
  | .agg ds => ds
  | .box _ => []
def V.okc : V → Bool
  | .leaf d => firm d
  | .agg ds => ds.all flat
  | .box _ => false
def V.isBox : V → Bool
  | .box _ => true
  | _ => false
/-- cells put in at an offset -/
def splice (ds : List D) (off : Nat) (xs : List D) : List D := ds.take off ++ xs ++ ds.drop (off + xs.length)
def fills (z : List D) : List (Nat × Nat × X) → Pg (List D)
  | [] => .ret z
  | (off, m, x) :: ps => (takeV x).bind fun v =>
    if v.okc && v.data.length == m && decide (off + m ≤ z.length) then fills (splice z off v.data) ps else .fail
def fillRows (zr : List D) (rows : List (List D)) : List (Nat × X) → Pg (List (List D))
  | [] => .ret rows
  | (i, x) :: ps => (takeV x).bind fun v =>
    if v.okc && v.data.length == zr.length && decide (i < rows.length) && v.data.all flat then fillRows zr (rows.set i v.data) ps else .fail
def dupIn (k j i e : Nat) : Nat → List D → List D
  | _, [] => []
  | c, d :: ds => (if own d then .al k j (some (i, c)) e else d) :: dupIn k j i e (c + 1) ds
def loadP (ag : Bool) (m : Nat) : D → Pg V
  | .bp k off n => .rd k fun s => if n = s.x then (match s.c with
    | .box ds => if off + m ≤ ds.length then V.pick ag (dupL k s off ((ds.drop off).take m)) else .fail
    | _ => .fail) else .fail
  | .el k j st i off n => .rd k fun s => if n = s.e then (match plD s.c j st with
    | some (.sl true _ rows) => match rows[i]? with
      | some r => if off + m ≤ r.length then (match st with
        | none => V.pick ag (dupIn k j i s.e off ((r.drop off).take m))
        | some _ => if ((r.drop off).take m).all (fun d => !own d) then V.pick ag ((r.drop off).take m) else .fail) else .fail
      | none => .fail
    | _ => .fail) else .fail
  | .pt cells => if 0 < m ∧ m ≤ cells.length then V.pick ag (cells.take m) else .fail
  | _ => .fail
def storeP (xs : List D) : D → Pg Unit
  | .bp k off n => .rd k fun s => if n = s.x then (match s.c with
    | .box ds => if off + xs.length ≤ ds.length then .wr k (s.up1 (.box (splice ds off xs))) (.ret ()) else .fail
    | _ => .fail) else .fail
  | .el k j st i off n => .rd k fun s => if n = s.e then (match plD s.c j st with
    | some (.sl true w rows) => match rows[i]? with
      | some r => if off + xs.length ≤ r.length then .wr k (s.up0 (plSet s.c j st (.sl true w (rows.set i (splice r off xs))))) (.ret ()) else .fail
      | none => .fail
    | _ => .fail) else .fail
  | _ => .fail
def D.int : D → Pg Int
  | .i _ n => .ret n
  | _ => .fail
def rowAt (rows : List (List D)) (i : Int) : Pg (List D) :=
  if 0 ≤ i then (match rows[i.toNat]? with
    | some r => .ret r
    | none => .fail) else .fail
/-- where an own slice is: slot, cell, nested place -/
def iaddrP (w : Nat) (x : X) (i : Int) : Pg V :=
  (getD x).bind fun d => match d with
    | .al k j st n => (lookAl k j st n).bind fun c => match c with
      | .sl true w' rows => if w = w' then (rowAt rows i).bind fun _ => .rd k fun s => .ret (.leaf (.el k j st i.toNat 0 s.e)) else .fail
      | _ => .fail
    | .sl false w' rows => if w = w' then (rowAt rows i).bind fun r => .ret (.leaf (.pt r)) else .fail
    | _ => .fail
/-- Is an address told? -/
def live : D → Pg Unit
  | .bp k _ n => .rd k fun s => if n = s.x then .ret () else .fail
  | .el k _ _ _ _ n => .rd k fun s => if n = s.e then .ret () else .fail
  | .pt _ => .ret ()
  | .nilp => .ret ()
  | .b _ => .ret ()
  | _ => .fail
def faddrD (off : Nat) : D → Pg V
  | .bp k o n => .ret (.leaf (.bp k (o + off) n))
  | .el k j st i o n => .ret (.leaf (.el k j st i (o + off) n))
  | .pt cells => if off ≤ cells.length then .ret (.leaf (.pt (cells.drop off))) else .fail
  | _ => .fail
def findD (es : List (D × D)) (k : D) : Option (Option D) :=
  match es with
  | [] => some none
  | (a, v) :: r => match eqD k a with
    | some true => some (some v)
    | some false => findD r k
    | none => none
def setE : List (D × D) → D → D → Option (List (D × D))
  | [], k, v => some [(k, v)]
  | (a, b) :: r, k, v => match eqD k a with
    | some true => some ((k, v) :: r)
    | some false => (setE r k v).map ((a, b) :: ·)
    | none => none
def isI : D → Bool
  | .i _ _ => true
  | _ => false
def isPrim : D → Bool
  | .i _ _ | .b _ | .s _ => true
  | _ => false
def vd (d : D) : V := .leaf d
def bndP (n : Nat) : Option X → Nat → Pg Nat
  | none, dflt => .ret dflt
  | some x, _ => (getD x).bind fun d => d.int.bind fun i => if 0 ≤ i ∧ i ≤ n then .ret i.toNat else .fail
def contentP (x : X) : Pg D := (getD x).bind deref

/-! ### Views -/
def viewC : D → Pg (D × Bool)
  | .sl true w els => .ret (.sl false w (flRows els), true)
  | .al k j st n => (lookAl k j st n).bind fun d => match d with
    | .sl true w els => .ret (.sl false w (flRows els), true)
    | _ => .fail
  | .bp k off n => .rd k fun s => if n = s.x then (match s.c with
    | .box ds => if ds.all flat && decide (off ≤ ds.length) then .ret (.pt (flCells (ds.drop off)), true) else .fail
    | _ => .fail) else .fail
  | .el k j st i off n => .rd k fun s => if n = s.e then (match plD s.c j st with
    | some (.sl true _ rows) => match rows[i]? with
      | some r => if off ≤ r.length then .ret (.pt (flCells (r.drop off)), true) else .fail
      | none => .fail
    | _ => .fail) else .fail
  | .i k n => .ret (.i k n, false)
  | .b t => .ret (.b t, false)
  | .s x => .ret (.s x, false)
  | .nilp => .ret (.nilp, false)
  | .sl false w els => .ret (.sl false w els, false)
  | .pt cs => .ret (.pt cs, false)
  | _ => .fail
def viewL : List D → Pg (List D × Bool)
  | [] => .ret ([], false)
  | d :: ds => (viewC d).bind fun p => (viewL ds).bind fun q => .ret (p.1 :: q.1, p.2 || q.2)
def viewD : D → Pg (D × Bool)
  | .fn f caps => (viewL caps).bind fun p => .ret (.fn f p.1, p.2)
  | d => viewC d
def viewDs : List D → Pg (List D × Bool)
  | [] => .ret ([], false)
  | d :: ds => (viewD d).bind fun p => (viewDs ds).bind fun q => .ret (p.1 :: q.1, p.2 || q.2)
def viewV : X → Pg (V × Bool)
  | .c (.leaf (.sl true w [])) => .ret (.leaf (.sl false w []), false)
  | .c (.leaf (.fn f [])) => .ret (.leaf (.fn f []), false)
  | .c (.leaf d) => if isPrim d then .ret (.leaf d, false) else .fail
  | .c _ => .fail
  | .t n => .rd n fun s => match s.c with
    | .leaf d => (viewD d).bind fun p => .ret (.leaf p.1, p.2)
    | .agg ds => (viewDs ds).bind fun p => .ret (.agg p.1, p.2)
    | .box _ => (viewD (.bp n 0 s.x)).bind fun p => .ret (.leaf p.1, p.2)
abbrev Pl := Option (Nat × Nat × Option (Nat × Nat))
def ioD : D → Pg (D × Pl)
  | .al k j st n => (lookAl k j st n).bind fun d => .rd k fun s => .wr k (s.up0 (plSet s.c j st .dead)) (.ret (d, some (k, j, st)))
  | .i k n => .ret (.i k n, none)
  | .b t => .ret (.b t, none)
  | .s x => .ret (.s x, none)
  | .nilp => .ret (.nilp, none)
  | _ => .fail
def ioDs (n : Nat) : Nat → List D → Pg (List D × List Pl)
  | _, [] => .ret ([], [])
  | j, d :: ds => (if own d then Pg.ret (d, some (n, j, none)) else ioD d).bind fun p => (ioDs n (j + 1) ds).bind fun q => .ret (p.1 :: q.1, p.2 :: q.2)
/-- Places of which none touches another. -/
def apartPl : Pl → Pl → Bool
  | some (k, j, st), some (k', j', st') => k != k' || j != j' || (match st, st' with
    | some (i, l), some (i', l') => i != i' || l != l'
    | _, _ => false)
  | _, _ => true
def apartAll : List Pl → Bool
  | [] => true
  | p :: ps => ps.all (apartPl p) && apartAll ps
def ioTake : X → Pg (V × List Pl)
  | .c _ => .fail
  | .t n => .rd n fun s => match s.c with
    | .leaf d => if own d then .wr n (s.up0 (.leaf .dead)) (.ret (.leaf d, [some (n, 0, none)])) else (match d with
      | .bp k 0 m => .rd k fun s' => if m = s'.x then (match s'.c with
        | .box ds => .wr k (s'.up2 (.leaf .dead)) (.ret (.box ds, [some (k, 0, none)]))
        | _ => .fail) else .fail
      | d => (ioD d).bind fun p => .ret (.leaf p.1, [p.2]))
    | .agg ds => .wr n (s.up0 (.agg (ds.map killOwn))) ((ioDs n 0 ds).bind fun p => if apartAll p.2 then .ret (.agg p.1, p.2) else .fail)
    | .box ds => .wr n (s.up2 (.leaf .dead)) (.ret (.box ds, [some (n, 0, none)]))
def isDead : Option D → Bool
  | some .dead => true
  | _ => false
def ioBackD (d : D) : Pl → Pg Unit
  | some (k, j, st) => .rd k fun s => if isDead (plD s.c j st) && !outAl d then .wr k (s.up0 (plSet s.c j st d)) (.ret ()) else .fail
  | none => .ret ()
def ioBackL : List D → List Pl → Pg Unit
  | [], [] => .ret ()
  | d :: ds, p :: ps => (ioBackD d p).bind fun _ => ioBackL ds ps
  | _, _ => .fail
def ioBack : V → V → List Pl → Pg Unit
  | .box _, .box ds, [some (k, _, _)] => .rd k fun s => .wr k (s.up2 (.box ds)) (.ret ())
  | .leaf _, .leaf d, ps => ioBackL [d] ps
  | .agg _, .agg ds, ps => ioBackL ds ps
  | _, _, _ => .fail
def viewVs (io : Option Nat) (vio : V) : Nat → List X → Pg (List V × Bool)
  | _, [] => .ret ([], false)
  | j, x :: xs => (if io = some j then Pg.ret (vio, false) else viewV x).bind fun p => (viewVs io vio (j + 1) xs).bind fun q => .ret (p.1 :: q.1, p.2 || q.2)
def putVs : List Nat → List V → Pg Unit
  | [], [] => .ret ()
  | d :: ds, v :: vs => (putS d v).bind fun _ => putVs ds vs
  | _, _ => .fail
def putR (dst : Option Nat) (vs : List Nat) (rs : List V) : Pg Unit :=
  match dst, vs, rs with
  | some d, [], [v] => putS d v
  | some d, vs, rs => (putS d (.leaf .dead)).bind fun _ => putVs vs rs
  | none, [], _ => .ret ()
  | none, _, _ => .fail
def putO (dst : Option Nat) (v : V) : Pg Unit :=
  match dst with
  | some d => putS d v
  | none => .ret ()
def callP (E : CallF) (dst : Option Nat) (vs : List Nat) (f : Nat) (io : Option Nat) (xs : List X) : Pg Unit :=
  match io with
  | none => (viewVs none (.leaf .dead) 0 xs).bind fun p => match E f p.1 with
    | some (rs, []) => if !p.2 || rs.all V.owned then putR dst vs rs else .fail
    | _ => .fail
  | some j => match xs[j]? with
    | none => .fail
    | some x => (ioTake x).bind fun t => (viewVs (some j) t.1 0 xs).bind fun p => match E f p.1 with
      | some (rs, [v]) => if !p.2 || (rs.all V.owned && v.owned) then (ioBack t.1 v t.2).bind fun _ => putR dst vs rs else .fail
      | _ => .fail
def kindD : D → Option Nat
  | .b _ => some 0
  | .i _ _ => some 1
  | .s _ => some 2
  | _ => none
def eqV : V → V → Option Bool
  | .agg a, .agg b => eqCells a b
  | _, _ => none
/-- k: 0 bools, 1 pointers -/
def eqP (k : Nat) : D → D → Option Bool
  | .b a, .b b => if k = 0 then some (a == b) else none
  | .nilp, .nilp => if k = 1 then some true else none
  | .nilp, b => if k = 1 && isPtr b then some false else none
  | a, .nilp => if k = 1 && isPtr a then some false else none
  | _, _ => none
def minL (mx : Bool) : List Int → Int → Int
  | [], a => a
  | b :: r, a => minL mx r (if mx then (if b > a then b else a) else (if b < a then b else a))


def solid : V → Bool
  | .leaf (.i _ _) | .leaf (.b _) | .leaf (.s _) | .leaf .nilp | .leaf (.sl _ _ _) | .leaf (.pt _) | .leaf (.fn _ _) | .leaf (.mp _) => true
  | .agg _ => true
  | .box _ => true
  | _ => false
def intsOf (k : IntKind) : List D → Option (List Int)
  | [] => some []
  | .i k' n :: r => if k' = k then (intsOf k r).map (n :: ·) else none
  | _ => none
def takeVs : List Nat → Pg (List V)
  | [] => .ret []
  | k :: ks => (takeV (.t k)).bind fun v => (takeVs ks).bind fun vs => .ret (v :: vs)
/-- One operation. -/
def stepO (E : CallF) (dst : Option Nat) (vs : List Nat) : O → Pg Unit
  | .bad => .fail
  | .mv x => (getV x).bind (putO dst)
  | .mvt ks => (takeVs ks).bind fun rs => if rs.all solid then putR dst vs rs else .fail
  | .asg x => (moveV x).bind (putO dst)
  | .pick c a b => (getD c).bind fun d => match d with
    | .b true => (getV a).bind (putO dst)
    | .b false => (getV b).bind (putO dst)
    | _ => .fail
  | .alloc z => putO dst (.box z)
  | .box x => match dst with
    | none => .fail
    | some k => match x with
      | .c v => if v.okc then putS k (.box v.data) else .fail
      | .t n => .rd n fun s => if k = n then .fail else (takeV x).bind fun v => if v.okc then
          (putS k (.box v.data)).bind fun _ => .rd k fun s' => .rd n fun s2 =>
            .wr n (s2.up2 (match s.c with
              | .leaf d => .leaf (fwdD k s' 0 d)
              | .agg ds => .agg (fwdL k s' 0 ds)
              | .box _ => .leaf .dead)) (.ret ()) else .fail
  | .build z ps => (fills z ps).bind fun ds => putO dst (.agg ds)
  | .lit w zr n ps => (fillRows zr (List.replicate n zr) ps).bind fun rows => putO dst (.leaf (.sl true w rows))
  | .load ag m x => (getD x).bind fun d => (loadP ag m d).bind (putO dst)
  | .store m a x => (takeV x).bind fun v => (getD a).bind fun d => if v.okc && v.data.length == m && v.data.all firm then (storeP v.data d).bind fun _ => putO dst (.leaf .und) else .fail
  | .nilck x => (getD x).bind fun d => if isPtr d then (live d).bind fun _ => putO dst (.leaf d) else .fail
  | .bin op x y => (getD x).bind fun a => (getD y).bind fun b => (Pg.ofOpt (binD op a b)).bind fun d => putO dst (.leaf d)
  | .eqs ne ks x y => (getV x).bind fun a => (getV y).bind fun b => if a.data.map kindD == ks.map some && b.data.map kindD == ks.map some then (Pg.ofOpt (eqV a b)).bind fun t => putO dst (.leaf (.b (if ne then !t else t))) else .fail
  | .eqc ne k x y => (getD x).bind fun a => (getD y).bind fun b => (live a).bind fun _ => (live b).bind fun _ => (Pg.ofOpt (eqP k a b)).bind fun t => putO dst (.leaf (.b (if ne then !t else t)))
  | .un op x => (getD x).bind fun a => (Pg.ofOpt (unD op a)).bind fun d => putO dst (.leaf d)
  | .conv k x => (getD x).bind fun a => match a with
    | .i _ n => putO dst (.leaf (.i k (k.wrap n)))
    | _ => .fail
  | .mkfn f caps => (getDs caps).bind fun ds => if ds.all (fun d => match d with | .fn _ _ => false | _ => true) then putO dst (.leaf (.fn f ds)) else .fail
  | .mkmap => putO dst (.leaf (.mp []))
  | .mksl w zr n => (getD n).bind fun d => d.int.bind fun i => if 0 ≤ i ∧ i ≤ LIM then putO dst (.leaf (.sl true w (List.replicate i.toNat zr))) else .fail
  | .cut0 w x => (getD x).bind fun d => (deref d).bind fun c => match c with
    | .sl _ _ _ => putO dst (.leaf (.sl true w []))
    | _ => .fail
  | .cut w x lo hi => (getD x).bind fun d => match d with
    | .sl false w' rows => if w = w' then (bndP rows.length hi rows.length).bind fun h => (bndP h lo 0).bind fun l => putO dst (.leaf (.sl false w ((rows.take h).drop l))) else .fail
    | _ => .fail
  | .cutstr x lo hi => (getD x).bind fun d => match d with
    | .s t => (bndP t.size hi t.size).bind fun h => (bndP h lo 0).bind fun l => putO dst (.leaf (.s (t.extract l h)))
    | _ => .fail
  | .faddr off x => (getD x).bind fun d => (live d).bind fun _ => (faddrD off d).bind (putO dst)
  | .field ag off m x => match x with
    | .c _ => .fail
    | .t n => .rd n fun s => match s.c with
      | .agg ds => if off + m ≤ ds.length then (V.pick ag (dupL n s off ((ds.drop off).take m))).bind (putO dst) else .fail
      | _ => .fail
  | .iaddr w x i => (getD i).bind fun d => d.int.bind fun i => (iaddrP w x i).bind (putO dst)
  | .index x i => (getD x).bind fun d => (getD i).bind fun e => e.int.bind fun i => match d with
    | .s t => if 0 ≤ i then (match t.toList[i.toNat]? with
      | some b => putO dst (.leaf (.i .u8 b.toNat))
      | none => .fail) else .fail
    | _ => .fail
  | .look z ok x k => (contentP x).bind fun m => (getD k).bind fun kd => match m with
    | .mp es => if isI kd then (match findD es kd with
      | some r => match ok, vs with
        | false, [] => putO dst (.leaf (r.getD z))
        | true, [a, b] => putR dst [a, b] [.leaf (r.getD z), .leaf (.b r.isSome)]
        | _, _ => .fail
      | none => .fail) else .fail
    | _ => .fail
  | .mup x k v => (getD x).bind fun a => (getD k).bind fun kd => (getD v).bind fun vd => match a with
    | .al s j none n => (lookAl s j none n).bind fun m => match m with
      | .mp es => if isI kd && isPrim vd then (match setE es kd vd with
        | some es' => .rd s fun sl => .wr s (sl.up0 (plSet sl.c j none (.mp es'))) (putO dst (.leaf .und))
        | none => .fail) else .fail
      | _ => .fail
    | _ => .fail
  | .ext x => (moveV x).bind fun v => if solid v then putO dst v else .fail
  | .call f io xs => callP E dst vs f io xs
  | .callv x xs => (getD x).bind fun d => (viewD d).bind fun p => match p.1 with
    | .fn f caps => (viewVs none (.leaf .dead) 0 xs).bind fun q => match E f (q.1 ++ caps.map V.leaf) with
      | some (rs, []) => if !(p.2 || q.2) || rs.all V.owned then putR dst vs rs else .fail
      | _ => .fail
    | _ => .fail
  | .len k x => (contentP x).bind fun c => match k, c with
    | 0, .sl _ _ els => putO dst (.leaf (.i .i64 els.length))
    | 1, .s t => putO dst (.leaf (.i .i64 t.size))
    | 2, .mp es => putO dst (.leaf (.i .i64 es.length))
    | _, _ => .fail
  | .app w s x => (takeV s).bind fun b => match b with
    | .leaf (.sl true w' els) => if w' = w then
        (match x with
         | .c (.leaf (.sl true _ [])) => putO dst (.leaf (.sl true w els))
         | .c _ => .fail
         | .t n => .rd n fun sx => match sx.c with
           | .leaf (.sl true w2 rows) => if w2 = w ∧ els.length + rows.length ≤ LIM ∧ (rows.all fun r => r.all firm) = true then .wr n (sx.up0 (.leaf .dead)) (putO dst (.leaf (.sl true w (els ++ rows)))) else .fail
           | .leaf d => (deref d).bind fun c => match c with
             | .sl _ w2 rows => if w2 = w ∧ els.length + rows.length ≤ LIM ∧ (rows.all fun r => r.all fun d => !own d && firm d) = true then putO dst (.leaf (.sl true w (els ++ rows))) else .fail
             | _ => .fail
           | _ => .fail) else .fail
    | _ => .fail
  | .cpy _ _ => .fail
  | .mx xs => (getDs xs).bind fun ds => match ds with
    | .i k n :: r => (Pg.ofOpt (intsOf k r)).bind fun l => putO dst (.leaf (.i k (minL true l n)))
    | _ => .fail
  | .mn xs => (getDs xs).bind fun ds => match ds with
    | .i k n :: r => (Pg.ofOpt (intsOf k r)).bind fun l => putO dst (.leaf (.i k (minL false l n)))
    | _ => .fail

def skipP (dst : Option Nat) : Pg Unit := putO dst (.leaf .und)
/-- An operation with its guard. -/
def stepG (E : CallF) (o : IOp) : Pg Unit :=
  match o.g with
  | none => stepO E o.dst o.vs o.o
  | some (g, want) => .rd g fun s => match s.c with
    | .leaf (.b t) => if t = want then stepO E o.dst o.vs o.o else skipP o.dst
    | .leaf .und => skipP o.dst
    | _ => .fail

inductive C where
  | bad
  | skip
  | rg (ops : List IOp)
  | rgd (ops : List IOp)
  | seq (a b : C)
  | cond (x : X) (a b : C)
  | block (id : Nat) (a : C)
  | loop (keep : List Nat) (a : C)
  | exit (id : Nat)
  | ret
inductive Ex where
  | normal
  | exit (id : Nat)
  | ret

def runOps (E : CallF) : List IOp → St → Option St
  | [], S => some S
  | o :: r, S => match (stepG E o).run S with
    | some (_, S') => runOps E r S'
    | none => none
def runOpsD (E : CallF) : List IOp → St → Option St
  | [], S => some S
  | o :: r, S => match (stepG E o).runIn o.rs o.ws S with
    | some (_, S') => runOpsD E r S'
    | none => none
/-- Slots as they stand at a loop's head: what isn't kept is forgotten; the counters begin anew. -/
def normD (keep : List Nat) (S : St) : D → D
  | .al k j st n => match S[k]? with
    | some s => if keep.contains k && (n == s.ver st) then .al k j st 0 else .dead
    | none => .dead
  | .bp k off n => match S[k]? with
    | some s => if keep.contains k && (n == s.x) then .bp k off 0 else .dead
    | none => .dead
  | .el k j st i off n => match S[k]? with
    | some s => if keep.contains k && (n == s.e) then .el k j st i off 0 else .dead
    | none => .dead
  | d => d
def normC (keep : List Nat) (S : St) : D → D
  | .fn f caps => .fn f (caps.map (normD keep S))
  | d => normD keep S d
def normV (keep : List Nat) (S : St) : V → V
  | .leaf d => .leaf (normC keep S d)
  | .agg ds => .agg (ds.map (normC keep S))
  | .box ds => .box ds
def headGo (keep : List Nat) (S : St) : Nat → St → St
  | _, [] => []
  | k, s :: r => ⟨if keep.contains k then normV keep S s.c else .leaf .dead, 0, 0, 0⟩ :: headGo keep S (k + 1) r
def headS (keep : List Nat) (S : St) : St := headGo keep S 0 S

def evLoop (f : St → Option (Ex × St)) (keep : List Nat) : Nat → St → Option (Ex × St)
  | 0, _ => none
  | n + 1, S => match f (headS keep S) with
    | some (.normal, S') => evLoop f keep n S'
    | r => r
def LF : Nat := 18446744073709551616
def ev (E : CallF) : C → St → Option (Ex × St)
  | .bad, _ => none
  | .skip, S => some (.normal, S)
  | .rg ops, S => (runOps E ops S).map fun S' => (.normal, S')
  | .rgd ops, S => (runOpsD E ops S).map fun S' => (.normal, S')
  | .seq a b, S => match ev E a S with
    | some (.normal, S') => ev E b S'
    | r => r
  | .cond x a b, S => match (getD x).run S with
    | some (.b true, _) => ev E a S
    | some (.b false, _) => ev E b S
    | _ => none
  | .block id a, S => match ev E a S with
    | some (.exit id', S') => if id' = id then some (.normal, S') else some (.exit id', S')
    | r => r
  | .loop keep a, S => evLoop (ev E a) keep LF S
  | .exit id, S => some (.exit id, S)
  | .ret, S => some (.ret, S)

/-- A function as the evaluator has it. n: its temporaries; nv: components of tuples that have a slot of their own; res: where its results lie (a variable in memory, or a slot). -/
structure Fn where
  n : Nat
  nv : List (Nat × Nat)
  np : Nat
  code : C
  res : List (Option (Bool × Nat) × Nat)
  io : Option Nat
inductive Tb where
  | fn (f : Fn)
  | ext (g : List V → Option (List V × List V))

def resP : Option (Bool × Nat) × Nat → Pg V
  | (none, k) => .rd k fun s => match s.c with
    | .leaf (.bp k' 0 n) => .rd k' fun s' => if n = s'.x then (match s'.c with
      | .box ds => .wr k' (s'.up2 (.leaf .dead)) (.ret (.box ds))
      | _ => .fail) else .fail
    | _ => takeV (.t k)
  | (some (ag, m), k) => .rd k fun s => match s.c with
    | .box ds => if ds.length = m then .wr k (s.up2 (.leaf .dead)) (V.pick ag ds) else .fail
    | _ => .fail
def resPs : List (Option (Bool × Nat) × Nat) → Pg (List V)
  | [] => .ret []
  | x :: xs => (resP x).bind fun v => (resPs xs).bind fun vs => .ret (v :: vs)
def ioP : Option Nat → Pg (List V)
  | none => .ret []
  | some k => (resP (none, k)).bind fun v => .ret [v]
def finP (f : Fn) : Pg (List V × List V) :=
  (resPs f.res).bind fun rs => (ioP f.io).bind fun io => .ret (rs, io)
def startS (f : Fn) (args : List V) : St := args.map (fun v => (⟨v, 0, 0, 0⟩ : Sl)) ++ List.replicate (f.n + f.nv.length - args.length) Sl.nil
def okArgs (f : Fn) (args : List V) : Bool := args.length == f.np
def callN (T : Nat → Option Tb) : Nat → CallF
  | 0, _, _ => none
  | n + 1, k, args => match T k with
    | none => none
    | some (.ext g) => g args
    | some (.fn f) => if okArgs f args then
        (match ev (callN T n) f.code (startS f args) with
         | some (.normal, S) => ((finP f).run S).map (·.1)
         | some (.ret, S) => ((finP f).run S).map (·.1)
         | _ => none) else none

end Go.Proofs.Vai

namespace Go.Proofs.Vai
open Go

mutual
theorem NRel.frame {I I' : Nat → Prop} {w w' : World} (hI : ∀ b, I b → I' b) (hi : ∀ b, I b → w'.heap[b]? = w.heap[b]?) :
    ∀ (d : D) (v : Value) (F : Fp), NRel I w d v F → (∀ b, 0 < F b → w'.heap[b]? = w.heap[b]?) → NRel I' w' d v F
  | .i k n, v, F, h, _ => by simpa only [NRel] using h
  | .b t, v, F, h, _ => by simpa only [NRel] using h
  | .s x, v, F, h, _ => by simpa only [NRel] using h
  | .nilp, v, F, h, _ => by simpa only [NRel] using h
  | .und, v, F, h, _ => by simpa only [NRel] using h
  | .dead, v, F, h, _ => by simpa only [NRel] using h
  | .al _ _ _ _, v, F, h, _ => by simp only [NRel] at h
  | .bp _ _ _, v, F, h, _ => by simp only [NRel] at h
  | .el _ _ _ _ _ _, v, F, h, _ => by simp only [NRel] at h
  | .sl true wd els, v, F, h, hF => by
    simp only [NRel] at h ⊢
    obtain ⟨a, cap, rfl, hc, h⟩ := h
    refine ⟨a, cap, rfl, hc, ?_⟩
    rcases h with h | ⟨b, o, cs, T, F', rfl, hw, hb, hs, hr, rfl⟩
    · exact .inl h
    · refine .inr ⟨b, o, cs, T, F', rfl, hw, ?_, hs, ?_, rfl⟩
      · rw [hF b (by simp [addF, oneF]; omega)]; exact hb
      · exact RRel.frame hI hi _ els o F' hr fun x hx => hF x (by simp only [addF]; omega)
  | .sl false wd els, v, F, h, hF => by
    simp only [NRel] at h ⊢
    obtain ⟨rfl, a, cap, rfl, hc, h⟩ := h
    refine ⟨rfl, a, cap, rfl, hc, ?_⟩
    rcases h with h | ⟨b, o, cs, T, fr, rfl, hb, hg, hr⟩
    · exact .inl h
    · exact .inr ⟨b, o, cs, T, fr, rfl, hI b hb, by rw [hi b hb]; exact hg, RRel.frame hI hi _ els o zF hr fun x hx => absurd hx (by simp [zF])⟩
  | .pt cells, v, F, h, hF => by
    simp only [NRel] at h ⊢
    obtain ⟨rfl, b, o, cs, T, fr, rfl, hb, hg, hr⟩ := h
    exact ⟨rfl, b, o, cs, T, fr, rfl, hI b hb, by rw [hi b hb]; exact hg, CRel.frame hI hi _ cells o zF hr fun x hx => absurd hx (by simp [zF])⟩
  | .fn f caps, v, F, h, hF => by
    simp only [NRel] at h ⊢
    obtain ⟨rfl, vs, rfl, hr, hl⟩ := h
    exact ⟨rfl, vs, rfl, CRel.frame hI hi _ caps 0 zF hr fun x hx => absurd hx (by simp [zF]), hl⟩
  | .mp es, v, F, h, hF => by
    simp only [NRel] at h ⊢
    obtain ⟨r, en, cl, rfl, hg, rfl, he⟩ := h
    exact ⟨r, en, cl, rfl, by rw [hF r (by simp [oneF])]; exact hg, rfl, he⟩
theorem CRel.frame {I I' : Nat → Prop} {w w' : World} (hI : ∀ b, I b → I' b) (hi : ∀ b, I b → w'.heap[b]? = w.heap[b]?) (g : Nat → Option Value) :
    ∀ (ds : List D) (o : Nat) (F : Fp), CRel I w g ds o F → (∀ b, 0 < F b → w'.heap[b]? = w.heap[b]?) → CRel I' w' g ds o F
  | [], o, F, h, _ => by simpa only [CRel] using h
  | d :: ds, o, F, h, hF => by
    simp only [CRel] at h ⊢
    obtain ⟨x, F1, F2, hx, h1, h2, rfl⟩ := h
    exact ⟨x, F1, F2, hx, NRel.frame hI hi d x F1 h1 fun b hb => hF b (by simp only [addF]; omega), CRel.frame hI hi g ds _ F2 h2 fun b hb => hF b (by simp only [addF]; omega), rfl⟩
theorem RRel.frame {I I' : Nat → Prop} {w w' : World} (hI : ∀ b, I b → I' b) (hi : ∀ b, I b → w'.heap[b]? = w.heap[b]?) {wd : Nat} (g : Nat → Option Value) :
    ∀ (rs : List (List D)) (o : Nat) (F : Fp), RRel I w wd g rs o F → (∀ b, 0 < F b → w'.heap[b]? = w.heap[b]?) → RRel I' w' wd g rs o F
  | [], o, F, h, _ => by simpa only [RRel] using h
  | r :: rs, o, F, h, hF => by
    simp only [RRel] at h ⊢
    obtain ⟨F1, F2, hl, h1, h2, rfl⟩ := h
    exact ⟨F1, F2, hl, CRel.frame hI hi g r o F1 h1 fun b hb => hF b (by simp only [addF]; omega), RRel.frame hI hi g rs _ F2 h2 fun b hb => hF b (by simp only [addF]; omega), rfl⟩
end

/-- 'g' and 'g2' tell the same where it matters. -/
theorem CRel.congr {I : Nat → Prop} {w : World} {g g2 : Nat → Option Value} : ∀ (ds : List D) (o : Nat) (F : Fp), CRel I w g ds o F → (∀ k, o ≤ k → k < o + ds.length → g2 k = g k) → CRel I w g2 ds o F
  | [], o, F, h, _ => by simpa only [CRel] using h
  | d :: ds, o, F, h, hg => by
    simp only [CRel] at h ⊢
    obtain ⟨x, F1, F2, hx, h1, h2, rfl⟩ := h
    exact ⟨x, F1, F2, by rw [hg o (Nat.le_refl _) (by simp)]; exact hx, h1, CRel.congr ds _ F2 h2 fun k h3 h4 => hg k (by omega) (by simp only [List.length_cons]; omega), rfl⟩
theorem RRel.congr {I : Nat → Prop} {w : World} {wd : Nat} {g g2 : Nat → Option Value} : ∀ (rs : List (List D)) (o : Nat) (F : Fp), RRel I w wd g rs o F → (∀ k, o ≤ k → k < o + rs.length * wd → g2 k = g k) → RRel I w wd g2 rs o F
  | [], o, F, h, _ => by simpa only [RRel] using h
  | r :: rs, o, F, h, hg => by
    simp only [RRel] at h ⊢
    obtain ⟨F1, F2, hl, h1, h2, rfl⟩ := h
    have e : (r :: rs).length * wd = wd + rs.length * wd := by simp [Nat.succ_mul, Nat.add_comm]
    exact ⟨F1, F2, hl, CRel.congr r o F1 h1 fun k h3 h4 => hg k h3 (by rw [e]; omega), RRel.congr rs _ F2 h2 fun k h3 h4 => hg k (by omega) (by rw [e]; omega), rfl⟩

theorem CRel.app {I : Nat → Prop} {w : World} {g : Nat → Option Value} : ∀ (xs ys : List D) (o : Nat) (F : Fp), CRel I w g (xs ++ ys) o F ↔ ∃ F1 F2, CRel I w g xs o F1 ∧ CRel I w g ys (o + xs.length) F2 ∧ F = addF F1 F2
  | [], ys, o, F => by
    simp only [List.nil_append, CRel, List.length_nil, Nat.add_zero]
    exact ⟨fun h => ⟨zF, F, rfl, h, (z_addF F).symm⟩, fun ⟨F1, F2, h1, h2, h3⟩ => by rw [h3, h1, z_addF]; exact h2⟩
  | x :: xs, ys, o, F => by
    simp only [List.cons_append, CRel]
    constructor
    · rintro ⟨v, F1, F2, hx, h1, h2, rfl⟩
      obtain ⟨G1, G2, g1, g2, rfl⟩ := (CRel.app xs ys (o + 1) F2).1 h2
      exact ⟨addF F1 G1, G2, ⟨v, F1, G1, hx, h1, g1, rfl⟩, by simpa [Nat.add_assoc, Nat.add_comm 1] using g2, (addF_assoc _ _ _).symm⟩
    · rintro ⟨F1, F2, ⟨v, G1, G2, hx, h1, h2, rfl⟩, h3, rfl⟩
      exact ⟨v, G1, addF G2 F2, hx, h1, (CRel.app xs ys (o + 1) _).2 ⟨G2, F2, h2, by simpa [Nat.add_assoc, Nat.add_comm 1] using h3, rfl⟩, addF_assoc _ _ _⟩
theorem RRel.app {I : Nat → Prop} {w : World} {wd : Nat} {g : Nat → Option Value} : ∀ (xs ys : List (List D)) (o : Nat) (F : Fp), RRel I w wd g (xs ++ ys) o F ↔ ∃ F1 F2, RRel I w wd g xs o F1 ∧ RRel I w wd g ys (o + xs.length * wd) F2 ∧ F = addF F1 F2
  | [], ys, o, F => by
    simp only [List.nil_append, RRel, List.length_nil, Nat.zero_mul, Nat.add_zero]
    exact ⟨fun h => ⟨zF, F, rfl, h, (z_addF F).symm⟩, fun ⟨F1, F2, h1, h2, h3⟩ => by rw [h3, h1, z_addF]; exact h2⟩
  | x :: xs, ys, o, F => by
    simp only [List.cons_append, RRel]
    have e : o + (x :: xs).length * wd = (o + wd) + xs.length * wd := by simp [Nat.succ_mul]; omega
    rw [e]
    constructor
    · rintro ⟨F1, F2, hl, h1, h2, rfl⟩
      obtain ⟨G1, G2, g1, g2, rfl⟩ := (RRel.app xs ys (o + wd) F2).1 h2
      exact ⟨addF F1 G1, G2, ⟨F1, G1, hl, h1, g1, rfl⟩, g2, (addF_assoc _ _ _).symm⟩
    · rintro ⟨F1, F2, ⟨G1, G2, hl, h1, h2, rfl⟩, h3, rfl⟩
      exact ⟨G1, addF G2 F2, hl, h1, (RRel.app xs ys (o + wd) _).2 ⟨G2, F2, h2, h3, rfl⟩, addF_assoc _ _ _⟩

/-- One cell singled out. -/
theorem CRel.at {I : Nat → Prop} {w : World} {g : Nat → Option Value} (ds : List D) (o : Nat) (F : Fp) (h : CRel I w g ds o F) (j : Nat) (d : D) (hj : ds[j]? = some d) :
    ∃ x F1 F2, g (o + j) = some x ∧ NRel I w d x F1 ∧ F = addF F1 F2 ∧
      ∀ (I' : Nat → Prop) (w' : World) (g' : Nat → Option Value) (d' : D) (x' : Value) (F' : Fp), (∀ b, I b → I' b) → (∀ b, I b → w'.heap[b]? = w.heap[b]?) → (∀ b, 0 < F2 b → w'.heap[b]? = w.heap[b]?) →
        (∀ k, k ≠ o + j → o ≤ k → k < o + ds.length → g' k = g k) → g' (o + j) = some x' → NRel I' w' d' x' F' → CRel I' w' g' (ds.set j d') o (addF F' F2) := by
  have hlt : j < ds.length := by
    rcases Nat.lt_or_ge j ds.length with h' | h'
    · exact h'
    · simp [List.getElem?_eq_none h'] at hj
  have hsplit : ds = ds.take j ++ d :: ds.drop (j + 1) := by
    have : ds[j] = d := by simpa [List.getElem?_eq_getElem hlt] using hj
    rw [← this]; simp
  have hset : ∀ d', ds.set j d' = ds.take j ++ d' :: ds.drop (j + 1) := fun d' => by rw [List.set_eq_take_append_cons_drop, if_pos hlt]
  have ht : (ds.take j).length = j := by simp; omega
  rw [hsplit] at h
  obtain ⟨G1, G2, h1, h2, rfl⟩ := (CRel.app _ _ _ _).1 h
  rw [ht] at h2
  simp only [CRel] at h2
  obtain ⟨x, K1, K2, hx, hn, h3, rfl⟩ := h2
  refine ⟨x, K1, addF G1 K2, hx, hn, addF_left_comm _ _ _, ?_⟩
  intro I' w' g' d' x' F' hI hi hf hg hx' hn'
  rw [hset, addF_left_comm]
  refine (CRel.app _ _ _ _).2 ⟨G1, addF F' K2, ?_, ?_, rfl⟩
  · exact CRel.congr _ _ _ (CRel.frame hI hi g _ _ _ h1 fun b hb => hf b (by simp only [addF]; omega)) fun k h4 h5 => hg k (by rw [ht] at h5; omega) h4 (by rw [ht] at h5; omega)
  · rw [ht]
    simp only [CRel]
    exact ⟨x', F', K2, hx', hn', CRel.congr _ _ _ (CRel.frame hI hi g _ _ _ h3 fun b hb => hf b (by simp only [addF]; omega)) fun k h4 h5 => hg k (by omega) (by omega) (by simp at h5; omega), rfl⟩
/-- One row singled out. -/
theorem RRel.at {I : Nat → Prop} {w : World} {wd : Nat} {g : Nat → Option Value} (rs : List (List D)) (o : Nat) (F : Fp) (h : RRel I w wd g rs o F) (i : Nat) (r : List D) (hi0 : rs[i]? = some r) :
    ∃ F1 F2, r.length = wd ∧ CRel I w g r (o + i * wd) F1 ∧ F = addF F1 F2 ∧
      ∀ (I' : Nat → Prop) (w' : World) (g' : Nat → Option Value) (r' : List D) (F' : Fp), (∀ b, I b → I' b) → (∀ b, I b → w'.heap[b]? = w.heap[b]?) → (∀ b, 0 < F2 b → w'.heap[b]? = w.heap[b]?) →
        (∀ k, (k < o + i * wd ∨ o + i * wd + wd ≤ k) → o ≤ k → k < o + rs.length * wd → g' k = g k) → r'.length = wd → CRel I' w' g' r' (o + i * wd) F' → RRel I' w' wd g' (rs.set i r') o (addF F' F2) := by
  have hlt : i < rs.length := by
    rcases Nat.lt_or_ge i rs.length with h' | h'
    · exact h'
    · simp [List.getElem?_eq_none h'] at hi0
  have hsplit : rs = rs.take i ++ r :: rs.drop (i + 1) := by
    have : rs[i] = r := by simpa [List.getElem?_eq_getElem hlt] using hi0
    rw [← this]; simp
  have hset : ∀ r', rs.set i r' = rs.take i ++ r' :: rs.drop (i + 1) := fun r' => by rw [List.set_eq_take_append_cons_drop, if_pos hlt]
  have ht : (rs.take i).length = i := by simp; omega
  have hlen : rs.length * wd = i * wd + (wd + (rs.length - (i + 1)) * wd) := by
    have : rs.length = i + (1 + (rs.length - (i + 1))) := by omega
    conv => lhs; rw [this]
    simp [Nat.add_mul]
  rw [hsplit] at h
  obtain ⟨G1, G2, h1, h2, rfl⟩ := (RRel.app _ _ _ _).1 h
  rw [ht] at h2
  simp only [RRel] at h2
  obtain ⟨K1, K2, hl, hn, h3, rfl⟩ := h2
  refine ⟨K1, addF G1 K2, hl, hn, addF_left_comm _ _ _, ?_⟩
  intro I' w' g' r' F' hI hi hf hg hl' hn'
  rw [hset, addF_left_comm]
  refine (RRel.app _ _ _ _).2 ⟨G1, addF F' K2, ?_, ?_, rfl⟩
  · refine RRel.congr _ _ _ (RRel.frame hI hi g _ _ _ h1 fun b hb => hf b (by simp only [addF]; omega)) fun k h4 h5 => ?_
    rw [ht] at h5
    exact hg k (.inl h5) h4 (by rw [hlen]; omega)
  · rw [ht]
    simp only [RRel]
    refine ⟨F', K2, hl', hn', RRel.congr _ _ _ (RRel.frame hI hi g _ _ _ h3 fun b hb => hf b (by simp only [addF]; omega)) fun k h4 h5 => ?_, rfl⟩
    simp only [List.length_drop] at h5
    exact hg k (.inr h4) (by omega) (by rw [hlen]; omega)
theorem CRel.len_ok {I : Nat → Prop} {w : World} {g : Nat → Option Value} : ∀ (ds : List D) (o : Nat) (F : Fp), CRel I w g ds o F → ∀ k, k < ds.length → ∃ x, g (o + k) = some x
  | [], o, F, h, k, hk => by simp at hk
  | d :: ds, o, F, h, k, hk => by
    simp only [CRel] at h
    obtain ⟨x, F1, F2, hx, h1, h2, rfl⟩ := h
    cases k with
    | zero => exact ⟨x, hx⟩
    | succ k =>
      obtain ⟨y, hy⟩ := CRel.len_ok ds (o + 1) F2 h2 k (by simpa using hk)
      exact ⟨y, by rw [← hy]; congr 1; omega⟩
end Go.Proofs.Vai

namespace Go.Proofs.Vai
open Go

/-- What stays fixed while a function runs. -/
structure Cx where
  I : Nat → Prop
  w0 : World
  F0 : Fp
  n : Nat
  nv : List (Nat × Nat)
  pins : List (Nat × Value)

def valOf (c : Cx) (a : Act) (k : Nat) : Value :=
  if k < c.n then a.tmps.getD k undef else match c.nv[k - c.n]? with
    | some (t, i) => (match a.tmps.getD t undef with
      | .tuple vs => vs.getD i undef
      | _ => undef)
    | none => undef
/-- Cell j of what a slot holds. -/
def cellOf (w : World) : V → Value → Nat → Option Value
  | .leaf _, v, j => if j = 0 then some v else none
  | .agg _, .agg cs, j => cs[j]?
  | .box _, .pointer (some p), j => match w.heap[p.block]? with
    | some (.cells cs _ _) => cs[j]?
    | _ => none
  | _, _, _ => none
/-- The value at a place. -/
def plV (w : World) (c : V) (v : Value) (j : Nat) (st : Option (Nat × Nat)) : Option Value :=
  match cellOf w c v j with
  | none => none
  | some u => match st with
    | none => some u
    | some (i, l) => match plD c j none, u with
      | some (.sl true wd rows), .slice (some p) _ _ => if i < rows.length then (match w.heap[p.block]? with
        | some (.cells cs _ _) => cs[p.off + i * wd + l]?
        | _ => none) else none
      | _, _ => none
/-- What an alias tells. -/
def AR (c : Cx) (S : St) (a : Act) (w : World) : D → Value → Prop
  | .al k j none n, v => ∃ s, S[k]? = some s ∧ n ≤ s.h ∧ (n = s.h → cellOf w s.c (valOf c a k) j = some v)
  | .al k j (some (i, l)) n, v => ∃ s, S[k]? = some s ∧ n ≤ s.e ∧ (n = s.e → plV w s.c (valOf c a k) j (some (i, l)) = some v)
  | .bp k off n, v => ∃ s, S[k]? = some s ∧ n ≤ s.x ∧ (n = s.x → ∃ ds b, s.c = .box ds ∧ valOf c a k = .pointer (some ⟨b, 0, none⟩) ∧ v = .pointer (some ⟨b, off, none⟩))
  | .el k j st i off n, v => ∃ s, S[k]? = some s ∧ n ≤ s.e ∧ (n = s.e → ∃ wd rows b o len cap, plD s.c j st = some (.sl true wd rows) ∧ plV w s.c (valOf c a k) j st = some (.slice (some ⟨b, o, none⟩) len cap) ∧ i < rows.length ∧
      v = .pointer (some ⟨b, o + i * wd + off, none⟩))
  | _, _ => False
/-- A datum at the top of a slot: an alias may stand there. -/
def TRel (I : Nat → Prop) (w : World) (A : D → Value → Prop) (d : D) (v : Value) (F : Fp) : Prop :=
  match d with
  | .al k j st n => F = zF ∧ A (.al k j st n) v
  | .bp k off n => F = zF ∧ A (.bp k off n) v
  | .el k j st i off n => F = zF ∧ A (.el k j st i off n) v
  | .fn f caps => F = zF ∧ ∃ vs, v = .func (.func f) #[] vs ∧ vs.size = caps.length ∧ ∀ (j : Nat) (c : D) (x : Value), caps[j]? = some c → vs[j]? = some x →
      (match c with
        | .al k j st n => A (.al k j st n) x
        | .bp k off n => A (.bp k off n) x
        | .el k j st i off n => A (.el k j st i off n) x
        | c => NRel I w c x zF)
  | d => NRel I w d v F
def TCRel (I : Nat → Prop) (w : World) (A : D → Value → Prop) (g : Nat → Option Value) : List D → Nat → Fp → Prop
  | [], _, F => F = zF
  | d :: ds, o, F => ∃ x F1 F2, g o = some x ∧ TRel I w A d x F1 ∧ TCRel I w A g ds (o + 1) F2 ∧ F = addF F1 F2
def VRel (I : Nat → Prop) (w : World) (A : D → Value → Prop) : V → Value → Fp → Prop
  | .leaf d, v, F => TRel I w A d v F
  | .agg ds, v, F => ∃ cs, v = .agg cs ∧ cs.size = ds.length ∧ TCRel I w A (fun j => cs[j]?) ds 0 F
  | .box ds, v, F => ∃ b cs T F', v = .pointer (some ⟨b, 0, none⟩) ∧ w.heap[b]? = some (.cells cs T (0, 0)) ∧ cs.size = ds.length ∧ CRel I w (fun j => cs[j]?) ds 0 F' ∧ F = addF (oneF b) F'
theorem TRel_plain {I : Nat → Prop} {w : World} {A : D → Value → Prop} {d : D} {v : Value} {F : Fp} (h : outAl d = false) : TRel I w A d v F ↔ NRel I w d v F := by
  cases d <;> first | (simp [outAl] at h; done) | exact Iff.rfl
/-- The relation of the evaluator's state to the machine's. H: what is owned by nobody's slot at the moment. -/
structure SR (c : Cx) (H : Fp) (S : St) (a : Act) (w : World) : Prop where
  defers : a.defers = []
  size : a.tmps.size = c.n
  len : S.length = c.n + c.nv.length
  pins : ∀ p ∈ c.pins, a.tmps.getD p.1 undef = p.2
  os : w.os = c.w0.os
  tape : w.tape = c.w0.tape
  output : w.output = c.w0.output
  hsize : c.w0.heap.size ≤ w.heap.size
  frame : ∀ b, b < c.w0.heap.size → c.F0 b = 0 → w.heap[b]? = c.w0.heap[b]?
  imm : ∀ b, c.I b → b < c.w0.heap.size ∧ c.F0 b = 0
  slots : ∃ Fs : Nat → Fp, (∀ k s, S[k]? = some s → VRel c.I w (AR c S a w) s.c (valOf c a k) (Fs k)) ∧
    (∀ k b, Fs k b + H b ≤ 1) ∧ (∀ k k' b, k ≠ k' → Fs k b + Fs k' b ≤ 1) ∧ (∀ b, H b ≤ 1) ∧
    (∀ k b, 0 < Fs k b → b < w.heap.size ∧ (b < c.w0.heap.size → 0 < c.F0 b)) ∧ (∀ b, 0 < H b → b < w.heap.size ∧ (b < c.w0.heap.size → 0 < c.F0 b)) ∧
    (∀ k, S.length ≤ k → Fs k = zF)

/-! ### Aliases move on -/
theorem TRel.mono {I I' : Nat → Prop} {w w' : World} {A A' : D → Value → Prop} {d : D} {v : Value} {F : Fp} (h : TRel I w A d v F)
    (hn : ∀ d v F', NRel I w d v F' → (∀ b, F' b ≤ F b) → NRel I' w' d v F') (hA : ∀ d v, A d v → A' d v) : TRel I' w' A' d v F := by
  cases d with
  | al k j st n => exact ⟨h.1, hA _ _ h.2⟩
  | bp k off n => exact ⟨h.1, hA _ _ h.2⟩
  | el k j st i off n => exact ⟨h.1, hA _ _ h.2⟩
  | fn f caps =>
    obtain ⟨rfl, vs, rfl, hs, hc⟩ := h
    refine ⟨rfl, vs, rfl, hs, fun j c x h1 h2 => ?_⟩
    have := hc j c x h1 h2
    cases c <;> first | exact hA _ _ this | exact hn _ _ _ this fun b => Nat.le_refl _
  | _ => exact hn _ _ _ h fun b => Nat.le_refl _
theorem TCRel.mono {I I' : Nat → Prop} {w w' : World} {A A' : D → Value → Prop} {g : Nat → Option Value} : ∀ {ds : List D} {o : Nat} {F : Fp}, TCRel I w A g ds o F →
    (∀ d v F', NRel I w d v F' → (∀ b, F' b ≤ F b) → NRel I' w' d v F') → (∀ d v, A d v → A' d v) → TCRel I' w' A' g ds o F
  | [], o, F, h, _, _ => h
  | d :: ds, o, F, h, hn, hA => by
    obtain ⟨x, F1, F2, hx, h1, h2, rfl⟩ := h
    exact ⟨x, F1, F2, hx, h1.mono (fun d v F' h h' => hn d v F' h fun b => Nat.le_trans (h' b) (by simp only [addF]; omega)) hA, TCRel.mono h2 (fun d v F' h h' => hn d v F' h fun b => Nat.le_trans (h' b) (by simp only [addF]; omega)) hA, rfl⟩
/-- What a slot holds, in another world and with other aliases. -/
theorem VRel.mono {I : Nat → Prop} {w w' : World} {A A' : D → Value → Prop} {c : V} {v : Value} {F : Fp} (h : VRel I w A c v F)
    (hi : ∀ b, I b → w'.heap[b]? = w.heap[b]?) (hf : ∀ b, 0 < F b → w'.heap[b]? = w.heap[b]?) (hA : ∀ d v, A d v → A' d v) : VRel I w' A' c v F := by
  have hn : ∀ d v F', NRel I w d v F' → (∀ b, F' b ≤ F b) → NRel I w' d v F' := fun d v F' h h' => NRel.frame (fun _ h => h) hi d v F' h fun b hb => hf b (Nat.lt_of_lt_of_le hb (h' b))
  cases c with
  | leaf d => exact TRel.mono h hn hA
  | agg ds =>
    obtain ⟨cs, rfl, hs, hc⟩ := h
    exact ⟨cs, rfl, hs, hc.mono hn hA⟩
  | box ds =>
    obtain ⟨b, cs, T, F', rfl, hb, hs, hc, rfl⟩ := h
    exact ⟨b, cs, T, F', rfl, by rw [hf b (by simp only [addF, oneF]; simp; omega)]; exact hb, hs, CRel.frame (fun _ h => h) hi _ _ _ _ hc fun x hx => hf x (by simp only [addF]; omega), rfl⟩
end Go.Proofs.Vai

namespace Go.Proofs.Vai
open Go

theorem lt_of_get {α : Type} {l : List α} {j : Nat} {d : α} (h : l[j]? = some d) : j < l.length := by
  rcases Nat.lt_or_ge j l.length with h' | h'
  · exact h'
  · simp [List.getElem?_eq_none h'] at h
theorem modify_set {α : Type} (l : List α) (j : Nat) (f : α → α) (d : α) (h : l[j]? = some d) : l.modify j f = l.set j (f d) := by
  have hlt := lt_of_get h
  have hd : l[j] = d := by simpa [List.getElem?_eq_getElem hlt] using h
  apply List.ext_getElem?
  intro i
  rw [List.getElem?_modify, List.getElem?_set]
  by_cases e : j = i
  · subst e; simp [hlt, hd]
  · simp [e]
theorem own_plain {d : D} (h : own d = true) : outAl d = false := by
  cases d <;> simp_all [own, outAl]

/-- A row of an own slice singled out. -/
theorem NRel.row {I : Nat → Prop} {w : World} {wd : Nat} {rows : List (List D)} {u : Value} {F : Fp} (h : NRel I w (.sl true wd rows) u F) (h1 : ∀ b, F b ≤ 1) {i : Nat} {r : List D} (hr : rows[i]? = some r) :
    ∃ b o cap cs T F1 F2, u = .slice (some ⟨b, o, none⟩) rows.length cap ∧ w.heap[b]? = some (.cells cs T (0, 0)) ∧ o + i * wd + wd ≤ cs.size ∧ r.length = wd ∧
      CRel I w (fun k => cs[k]?) r (o + i * wd) F1 ∧ F = addF (oneF b) (addF F1 F2) ∧
      ∀ (w' : World) (cs' : Array Value) (r' : List D) (F' : Fp), (∀ b, I b → w'.heap[b]? = w.heap[b]?) → (∀ b, 0 < F2 b → w'.heap[b]? = w.heap[b]?) →
        w'.heap[b]? = some (.cells cs' T (0, 0)) → cs'.size = cs.size → (∀ k, (k < o + i * wd ∨ o + i * wd + wd ≤ k) → cs'[k]? = cs[k]?) → r'.length = wd →
        CRel I w' (fun k => cs'[k]?) r' (o + i * wd) F' → NRel I w' (.sl true wd (rows.set i r')) u (addF (oneF b) (addF F' F2)) := by
  have hlt := lt_of_get hr
  simp only [NRel] at h
  obtain ⟨a, cap, rfl, hc, h⟩ := h
  rcases h with ⟨h, _⟩ | ⟨b, o, cs, T, F', rfl, hw, hb, hs, hrr, rfl⟩
  · omega
  · obtain ⟨F1, F2, hl, hcr, rfl, hup⟩ := RRel.at rows o F' hrr i r hr
    have hle : (i + 1) * wd ≤ cap * wd := Nat.mul_le_mul_right _ (by omega)
    rw [Nat.succ_mul] at hle
    refine ⟨b, o, cap, cs, T, F1, F2, rfl, hb, by omega, hl, hcr, rfl, ?_⟩
    intro w' cs' r' G hi hf hb' hs' hk hl' hcr'
    simp only [NRel]
    refine ⟨some ⟨b, o, none⟩, cap, by simp, by simpa using hc, .inr ⟨b, o, cs', T, _, rfl, hw, hb', by omega, ?_, rfl⟩⟩
    exact hup I w' _ r' G (fun _ h => h) hi hf (fun k h2 _ _ => hk k h2) hl' hcr'

theorem TCRel.at {I : Nat → Prop} {w : World} {A : D → Value → Prop} {g : Nat → Option Value} : ∀ (ds : List D) (o : Nat) (F : Fp), TCRel I w A g ds o F → ∀ (j : Nat) (d : D), ds[j]? = some d →
    ∃ x F1 F2, g (o + j) = some x ∧ TRel I w A d x F1 ∧ F = addF F1 F2 ∧ ∀ (w' : World) (A' : D → Value → Prop) (d' : D) (F' : Fp), (∀ b, I b → w'.heap[b]? = w.heap[b]?) → (∀ b, 0 < F2 b → w'.heap[b]? = w.heap[b]?) → (∀ d v, A d v → A' d v) →
      TRel I w' A' d' x F' → TCRel I w' A' g (ds.set j d') o (addF F' F2)
  | [], o, F, h, j, d, hj => by simp at hj
  | c :: ds, o, F, h, 0, d, hj => by
    obtain ⟨x, F1, F2, hx, h1, h2, rfl⟩ := h
    simp at hj
    subst hj
    refine ⟨x, F1, F2, hx, h1, rfl, fun w' A' d' F' hi hf hA ht => ⟨x, F', F2, hx, ht, ?_, rfl⟩⟩
    exact h2.mono (fun d v F' h h' => NRel.frame (fun _ h => h) hi d v F' h fun b hb => hf b (Nat.lt_of_lt_of_le hb (h' b))) hA
  | c :: ds, o, F, h, j + 1, d, hj => by
    obtain ⟨x, F1, F2, hx, h1, h2, rfl⟩ := h
    obtain ⟨y, G1, G2, hy, g1, rfl, hup⟩ := TCRel.at ds (o + 1) F2 h2 j d (by simpa using hj)
    refine ⟨y, G1, addF F1 G2, by rw [← hy]; congr 1; omega, g1, addF_left_comm _ _ _, fun w' A' d' F' hi hf hA ht => ?_⟩
    rw [addF_left_comm]
    refine ⟨x, F1, addF F' G2, hx, ?_, hup w' A' d' F' hi (fun b hb => hf b (by simp only [addF]; omega)) hA ht, rfl⟩
    exact h1.mono (fun d v F' h h' => NRel.frame (fun _ h => h) hi d v F' h fun b hb => hf b (by simp only [addF]; have := h' b; omega)) hA

/-- One cell of a slot singled out: its header stays. -/
theorem VRel.top {I : Nat → Prop} {w : World} {A : D → Value → Prop} {c : V} {v : Value} {F : Fp} (h : VRel I w A c v F) {j : Nat} {d : D} (hd : c.cells[j]? = some d) (ho : outAl d = false) :
    ∃ x F1 F2, cellOf w c v j = some x ∧ NRel I w d x F1 ∧ F = addF F1 F2 ∧
      ∀ (w' : World) (A' : D → Value → Prop) (d' : D) (F' : Fp), (∀ b, I b → w'.heap[b]? = w.heap[b]?) → (∀ b, 0 < F2 b → w'.heap[b]? = w.heap[b]?) → (∀ d v, A d v → A' d v) →
        outAl d' = false → NRel I w' d' x F' → VRel I w' A' (c.setCell j (fun _ => d')) v (addF F' F2) := by
  cases c with
  | leaf e =>
    cases j with
    | zero =>
      simp [V.cells] at hd
      subst hd
      have hn := (TRel_plain ho).1 h
      refine ⟨v, F, zF, rfl, hn, (addF_z F).symm, fun w' A' d' F' hi hf hA hp hn' => ?_⟩
      rw [addF_z]
      simp only [V.setCell, VRel, ↓reduceIte]
      exact (TRel_plain hp).2 hn'
    | succ j => simp [V.cells] at hd
  | agg ds =>
    obtain ⟨cs, rfl, hs, hc⟩ := h
    obtain ⟨x, F1, F2, hx, ht, rfl, hup⟩ := TCRel.at ds 0 F hc j d hd
    refine ⟨x, F1, F2, by simpa [cellOf] using hx, (TRel_plain ho).1 ht, rfl, fun w' A' d' F' hi hf hA hp hn' => ?_⟩
    simp only [V.setCell, VRel]
    rw [modify_set ds j _ d hd]
    exact ⟨cs, rfl, by simpa using hs, hup w' A' d' F' hi hf hA ((TRel_plain hp).2 hn')⟩
  | box ds =>
    obtain ⟨b, cs, T, F', rfl, hb, hs, hc, rfl⟩ := h
    obtain ⟨x, F1, F2, hx, hn, rfl, hup⟩ := CRel.at ds 0 F' hc j d hd
    refine ⟨x, F1, addF (oneF b) F2, by simpa [cellOf, hb] using hx, hn, addF_left_comm _ _ _, fun w' A' d' G hi hf hA hp hn' => ?_⟩
    simp only [V.setCell, VRel]
    rw [modify_set ds j _ d hd]
    refine ⟨b, cs, T, addF G F2, rfl, by rw [hf b (by simp only [addF, oneF]; simp; omega)]; exact hb, by simpa using hs, ?_, addF_left_comm _ _ _⟩
    exact hup I w' _ d' x G (fun _ h => h) hi (fun b' hb' => hf b' (by simp only [addF]; omega)) (fun _ _ _ _ => rfl) hx hn'

/-- One place of a slot singled out: its header stays. -/
theorem VRel.at {I : Nat → Prop} {w : World} {A : D → Value → Prop} {c : V} {v : Value} {F : Fp} (h : VRel I w A c v F) (h1 : ∀ b, F b ≤ 1) {j : Nat} {st : Option (Nat × Nat)} {d : D} (hd : plD c j st = some d) (ho : outAl d = false) :
    ∃ x F1 F2, plV w c v j st = some x ∧ NRel I w d x F1 ∧ F = addF F1 F2 ∧
      ∀ (w' : World) (A' : D → Value → Prop) (d' : D) (F' : Fp), (∀ b, I b → w'.heap[b]? = w.heap[b]?) → (∀ b, 0 < F2 b → w'.heap[b]? = w.heap[b]?) → (∀ d v, A d v → A' d v) →
        outAl d' = false → NRel I w' d' x F' → VRel I w' A' (plSet c j st d') v (addF F' F2) := by
  cases hc : c.cells[j]? with
  | none => simp [plD, hc] at hd
  | some e =>
    cases st with
    | none =>
      simp [plD, hc] at hd
      subst hd
      obtain ⟨x, F1, F2, hx, hn, rfl, hup⟩ := h.top hc ho
      refine ⟨x, F1, F2, by simp [plV, hx], hn, rfl, fun w' A' d' F' hi hf hA hp hn' => ?_⟩
      exact hup w' A' d' F' hi hf hA hp hn'
    | some il =>
      obtain ⟨i, l⟩ := il
      simp only [plD, hc] at hd
      split at hd
      · rename_i wd rows
        cases hr : rows[i]? with
        | none => simp [hr] at hd
        | some r =>
          simp only [hr] at hd
          obtain ⟨x, F1, F2, hx, hn, rfl, hup⟩ := h.top hc rfl
          have h1' : ∀ b, F1 b ≤ 1 := fun b => by have := h1 b; simp only [addF] at this; omega
          obtain ⟨b, o, cap, cs, T, G1, G2, rfl, hb, hsz, hl, hcr, rfl, hup2⟩ := hn.row h1' hr
          obtain ⟨y, K1, K2, hy, hk, rfl, hup3⟩ := CRel.at r _ _ hcr l d hd
          refine ⟨y, K1, addF (addF (oneF b) (addF K2 G2)) F2, ?_, hk, ?_, ?_⟩
          · simp only [plV, hx, plD, hc, if_pos (lt_of_get hr)]
            simp only [hb]
            exact hy
          · funext z; simp only [addF]; omega
          · intro w' A' d' F' hi hf hA hp hn'
            have hb' : w'.heap[b]? = some (.cells cs T (0, 0)) := by rw [hf b (by simp only [addF, oneF]; simp; omega)]; exact hb
            have hcr' := hup3 I w' (fun k => cs[k]?) d' y F' (fun _ h => h) hi (fun b' h' => hf b' (by simp only [addF]; omega)) (fun _ _ _ _ => rfl) hy hn'
            have hnn := hup2 w' cs (r.set l d') (addF F' K2) hi (fun b' h' => hf b' (by simp only [addF]; omega)) hb' rfl (fun _ _ => rfl) (by simpa using hl) hcr'
            have := hup w' A' (.sl true wd (rows.set i (r.set l d'))) _ hi (fun b' h' => hf b' (by simp only [addF]; omega)) hA rfl hnn
            have e : addF (addF (oneF b) (addF (addF F' K2) G2)) F2 = addF F' (addF (addF (oneF b) (addF K2 G2)) F2) := by funext z; simp only [addF]; omega
            rw [e] at this
            have e2 : plSet c j (some (i, l)) d' = c.setCell j (fun _ => .sl true wd (rows.set i (r.set l d'))) := by
              simp only [plSet]
              cases c with
              | leaf d0 =>
                cases j with
                | zero => simp [V.cells] at hc; subst hc; simp [V.setCell, inD, hr]
                | succ j => simp [V.cells] at hc
              | agg ds => simp only [V.setCell, V.cells] at hc ⊢; rw [modify_set ds j _ _ hc, modify_set ds j _ _ hc]; simp [inD, hr]
              | box ds => simp only [V.setCell, V.cells] at hc ⊢; rw [modify_set ds j _ _ hc, modify_set ds j _ _ hc]; simp [inD, hr]
            rw [e2]
            exact this
      · simp at hd
end Go.Proofs.Vai

namespace Go.Proofs.Vai
open Go

theorem cellOf_world {I : Nat → Prop} {w w' : World} {A : D → Value → Prop} {c : V} {v : Value} {F : Fp} (h : VRel I w A c v F) (hf : ∀ b, 0 < F b → w'.heap[b]? = w.heap[b]?) (j : Nat) : cellOf w' c v j = cellOf w c v j := by
  cases c with
  | leaf d => rfl
  | agg ds => obtain ⟨cs, rfl, _⟩ := h; rfl
  | box ds =>
    obtain ⟨b, cs, T, F', rfl, hb, hs, hc, rfl⟩ := h
    simp only [cellOf]
    rw [hf b (by simp only [addF, oneF]; simp; omega)]
theorem plV_world {I : Nat → Prop} {w w' : World} {A : D → Value → Prop} {c : V} {v : Value} {F : Fp} (h : VRel I w A c v F) (hf : ∀ b, 0 < F b → w'.heap[b]? = w.heap[b]?) (j : Nat) (st : Option (Nat × Nat)) (x : Value) (hx : plV w c v j st = some x) : plV w' c v j st = some x := by
  unfold plV at hx ⊢
  rw [cellOf_world h hf]
  cases hc : cellOf w c v j with
  | none => simp [hc] at hx
  | some u =>
    simp only [hc] at hx ⊢
    cases st with
    | none => exact hx
    | some il =>
      obtain ⟨i, l⟩ := il
      dsimp only at hx ⊢
      split at hx
      · rename_i wd rows p len cap hp
        have hcell : c.cells[j]? = some (.sl true wd rows) := by
          unfold plD at hp
          cases hj : c.cells[j]? with
          | none => simp [hj] at hp
          | some e => simpa [hj] using hp
        split at hx
        · rename_i hlt
          rw [if_pos hlt]
          obtain ⟨x', F1, F2, hx', hn, rfl, _⟩ := h.top hcell rfl
          rw [hc] at hx'
          obtain rfl := Option.some.inj hx'
          simp only [NRel] at hn
          obtain ⟨a, cap', he, hcap, hn⟩ := hn
          injection he with e1 e2 e3
          subst e1 e2 e3
          rcases hn with ⟨rfl, rfl⟩ | ⟨b, o, cs, T, F', ha, hw, hb, hs, hr, rfl⟩
          · omega
          · obtain rfl := Option.some.inj ha
            rw [hf _ (by simp only [addF, oneF]; simp; omega)]
            exact hx
        · simp at hx
      · simp at hx

/-- How slots move on, as far as aliases see. -/
theorem AR.next {c : Cx} {S S' : St} {a a' : Act} {w w' : World}
    (hS : ∀ k s, S[k]? = some s → ∃ s', S'[k]? = some s' ∧ s.e ≤ s'.e ∧ s.h ≤ s'.h ∧ s.x ≤ s'.x ∧
      (s'.h = s.h → ∀ j v, cellOf w s.c (valOf c a k) j = some v → cellOf w' s'.c (valOf c a' k) j = some v) ∧
      (s'.e = s.e → s'.c = s.c ∧ ∀ j st v, plV w s.c (valOf c a k) j st = some v → plV w' s'.c (valOf c a' k) j st = some v) ∧
      (s'.x = s.x → valOf c a' k = valOf c a k ∧ ∀ ds, s.c = .box ds → ∃ ds', s'.c = .box ds')) :
    ∀ d v, AR c S a w d v → AR c S' a' w' d v := by
  intro d v h
  cases d with
  | al k j st n =>
    cases st with
    | none =>
      obtain ⟨s, hs, hn, hv⟩ := h
      obtain ⟨s', hs', h1, h2, h3, h4, h5, h6⟩ := hS k s hs
      exact ⟨s', hs', by omega, fun e => h4 (by omega) j v (hv (by omega))⟩
    | some il =>
      obtain ⟨i, l⟩ := il
      obtain ⟨s, hs, hn, hv⟩ := h
      obtain ⟨s', hs', h1, h2, h3, h4, h5, h6⟩ := hS k s hs
      exact ⟨s', hs', by omega, fun e => (h5 (by omega)).2 j _ v (hv (by omega))⟩
  | bp k off n =>
    obtain ⟨s, hs, hn, hv⟩ := h
    obtain ⟨s', hs', h1, h2, h3, h4, h5, h6⟩ := hS k s hs
    refine ⟨s', hs', by omega, fun e => ?_⟩
    obtain ⟨g1, g2⟩ := h6 (by omega)
    obtain ⟨ds, b, hc, hb, rfl⟩ := hv (by omega)
    obtain ⟨ds', hds'⟩ := g2 ds hc
    exact ⟨ds', b, hds', g1 ▸ hb, rfl⟩
  | el k j st i off n =>
    obtain ⟨s, hs, hn, hv⟩ := h
    obtain ⟨s', hs', h1, h2, h3, h4, h5, h6⟩ := hS k s hs
    refine ⟨s', hs', by omega, fun e => ?_⟩
    obtain ⟨g1, g2⟩ := h5 (by omega)
    obtain ⟨wd, rows, b, o, len, cap, hd, hp, hlt, rfl⟩ := hv (by omega)
    exact ⟨wd, rows, b, o, len, cap, g1 ▸ hd, g2 _ _ _ hp, hlt, rfl⟩
  | _ => exact h.elim
theorem AR.refl_slot {c : Cx} {a a' : Act} {w w' : World} {I : Nat → Prop} {A : D → Value → Prop} {s : Sl} {k : Nat} {F : Fp} (hv : VRel I w A s.c (valOf c a k) F) (hf : ∀ b, 0 < F b → w'.heap[b]? = w.heap[b]?) (ha : valOf c a' k = valOf c a k) :
    (s.h = s.h → ∀ j v, cellOf w s.c (valOf c a k) j = some v → cellOf w' s.c (valOf c a' k) j = some v) ∧
      (s.e = s.e → s.c = s.c ∧ ∀ j st v, plV w s.c (valOf c a k) j st = some v → plV w' s.c (valOf c a' k) j st = some v) ∧
      (s.x = s.x → valOf c a' k = valOf c a k ∧ ∀ ds, s.c = .box ds → ∃ ds', s.c = .box ds') := by
  rw [ha]
  exact ⟨fun _ j v h => by rw [cellOf_world hv hf]; exact h, fun _ => ⟨rfl, fun j st v h => plV_world hv hf j st v h⟩, fun _ => ⟨rfl, fun ds h => ⟨ds, h⟩⟩⟩

/-- Some slots anew. -/
theorem SR.setU {c : Cx} {H H' : Fp} {S S' : St} {a a' : Act} {w : World} (h : SR c H S a w) (U : Nat → Prop) (FU : Nat → Fp)
    (hlen : S'.length = S.length) (hdef : a'.defers = []) (hsz : a'.tmps.size = c.n) (hpins : ∀ p ∈ c.pins, a'.tmps.getD p.1 undef = p.2)
    (hout : ∀ k, ¬ U k → S'[k]? = S[k]? ∧ valOf c a' k = valOf c a k) (hUlt : ∀ k, U k → k < S.length)
    (hin : ∀ k s, U k → S[k]? = some s → ∃ s', S'[k]? = some s' ∧ s.e < s'.e ∧ s.h < s'.h ∧ s.x < s'.x ∧ VRel c.I w (AR c S a w) s'.c (valOf c a' k) (FU k))
    (hF1 : ∀ k b, U k → FU k b + H' b ≤ H b) (hF2 : ∀ k k' b, U k → U k' → k ≠ k' → FU k b + FU k' b ≤ H b) (hH : ∀ b, H' b ≤ H b) : SR c H' S' a' w := by
  obtain ⟨Fs, g1, g2, g3, g4, g5, g6, g7⟩ := h.slots
  have hnext : ∀ d v, AR c S a w d v → AR c S' a' w d v := by
    refine AR.next fun k s hs => ?_
    by_cases hU : U k
    · obtain ⟨s', hs', e1, e2, e3, _⟩ := hin k s hU hs
      exact ⟨s', hs', by omega, by omega, by omega, fun e => by omega, fun e => by omega, fun e => by omega⟩
    · obtain ⟨e1, e2⟩ := hout k hU
      exact ⟨s, e1.trans hs, Nat.le_refl _, Nat.le_refl _, Nat.le_refl _, AR.refl_slot (g1 k s hs) (fun _ _ => rfl) e2⟩
  refine ⟨hdef, hsz, hlen.trans h.len, hpins, h.os, h.tape, h.output, h.hsize, h.frame, h.imm, ?_⟩
  classical
  refine ⟨fun k => if U k then FU k else Fs k, ?_, ?_, ?_, ?_, ?_, ?_, ?_⟩
  · intro k s' hs'
    by_cases hU : U k
    · simp only [hU, if_true]
      obtain ⟨s, hs⟩ : ∃ s, S[k]? = some s := ⟨S[k]'(hUlt k hU), by simp [hUlt k hU]⟩
      obtain ⟨s2, hs2, _, _, _, hv⟩ := hin k s hU hs
      rw [hs2] at hs'
      obtain rfl := Option.some.inj hs'
      exact hv.mono (fun _ _ => rfl) (fun _ _ => rfl) hnext
    · simp only [hU, if_false]
      obtain ⟨e1, e2⟩ := hout k hU
      rw [e2]
      exact (g1 k s' (e1 ▸ hs')).mono (fun _ _ => rfl) (fun _ _ => rfl) hnext
  · intro k b
    by_cases hU : U k
    · simp only [hU, if_true]; have := hF1 k b hU; have := g4 b; omega
    · simp only [hU, if_false]; have := g2 k b; have := hH b; omega
  · intro k k' b hne
    by_cases hU : U k <;> by_cases hU' : U k' <;> simp only [hU, hU', if_true, if_false]
    · have := hF2 k k' b hU hU' hne; have := g4 b; omega
    · have := hF1 k b hU; have := g2 k' b; omega
    · have := hF1 k' b hU'; have := g2 k b; omega
    · exact g3 k k' b hne
  · intro b; have := g4 b; have := hH b; omega
  · intro k b
    by_cases hU : U k
    · simp only [hU, if_true]; intro hb; exact g6 b (by have := hF1 k b hU; omega)
    · simp only [hU, if_false]; exact g5 k b
  · intro b hb; exact g6 b (by have := hH b; omega)
  · intro k hk
    have hU : ¬ U k := fun hU => by have := hUlt k hU; omega
    simp only [hU, if_false]; exact g7 k (by omega)

/-- A slot that isn't a component's. -/
def Cx.real (c : Cx) (d : Nat) : Prop := d < c.n ∧ (∀ p ∈ c.nv, p.1 ≠ d) ∧ (∀ p ∈ c.pins, p.1 ≠ d)
theorem getD_put {a : Act} {d : Nat} {v : Value} {k : Nat} (hd : d < a.tmps.size) : (a.put (some d) v).tmps.getD k undef = if k = d then v else a.tmps.getD k undef := by
  simp only [Act.put, Array.getD_eq_getD_getElem?, Array.getElem?_setIfInBounds]
  by_cases e : d = k
  · subst e; simp [hd]
  · simp [e, Ne.symm e]
theorem valOf_put {c : Cx} {a : Act} {d : Nat} {v : Value} (hr : c.real d) (hs : a.tmps.size = c.n) (k : Nat) : valOf c (a.put (some d) v) k = if k = d then v else valOf c a k := by
  obtain ⟨h1, h2, h3⟩ := hr
  unfold valOf
  by_cases hk : k < c.n
  · simp only [hk, if_true]; exact getD_put (by omega)
  · simp only [hk, if_false]
    rw [if_neg (by omega)]
    cases hn : c.nv[k - c.n]? with
    | none => rfl
    | some p =>
      obtain ⟨t, i⟩ := p
      have := h2 (t, i) (List.mem_of_getElem? hn)
      simp only
      rw [getD_put (by omega), if_neg this]
theorem put_pins {c : Cx} {a : Act} {d : Nat} {v : Value} (hr : c.real d) (hs : a.tmps.size = c.n) (h : ∀ p ∈ c.pins, a.tmps.getD p.1 undef = p.2) : ∀ p ∈ c.pins, (a.put (some d) v).tmps.getD p.1 undef = p.2 := by
  intro p hp
  rw [getD_put (by have := hr.1; omega), if_neg (hr.2.2 p hp)]
  exact h p hp
theorem SR.put {c : Cx} {H F : Fp} {S : St} {a : Act} {w : World} (h : SR c (addF H F) S a w) {d : Nat} (hr : c.real d) {s : Sl} (hs : S[d]? = some s) {x : V} {v : Value} (hv : VRel c.I w (AR c S a w) x v F) :
    SR c H (S.set d (s.up2 x)) (a.put (some d) v) w := by
  refine h.setU (fun k => k = d) (fun _ => F) (by simp) h.defers (by simp [Act.put, h.size]) (put_pins hr h.size h.pins) ?_ (fun k hk => hk ▸ lt_of_get hs) ?_ ?_ ?_ ?_
  · intro k hk
    rw [valOf_put hr h.size, if_neg hk, List.getElem?_set_ne (Ne.symm hk)]
    exact ⟨rfl, rfl⟩
  · rintro k s' rfl hs'
    rw [hs] at hs'
    obtain rfl := Option.some.inj hs'
    refine ⟨_, by rw [List.getElem?_set_self (lt_of_get hs)], by simp [Sl.up2], by simp [Sl.up2], by simp [Sl.up2], ?_⟩
    rw [valOf_put hr h.size, if_pos rfl]
    exact hv
  · intro k b hk; simp only [addF]; omega
  · intro k k' b hk hk' hne; exact absurd (hk.trans hk'.symm) hne
  · intro b; simp only [addF]; omega
end Go.Proofs.Vai

namespace Go.Proofs.Vai
open Go

def like : V → V → Bool
  | .leaf _, .leaf _ => true
  | .agg _, .agg _ => true
  | .box _, .box _ => true
  | _, _ => false
theorem cellOf_like {w : World} {c c' : V} {v : Value} (h : like c c' = true) (j : Nat) : cellOf w c v j = cellOf w c' v j := by
  cases c <;> cases c' <;> simp_all [like] <;> cases v <;> first | rfl | (rename_i p; cases p <;> rfl)
theorem like_plSet (c : V) (j : Nat) (st : Option (Nat × Nat)) (d : D) : like c (plSet c j st d) = true := by
  cases c <;> rfl

/-- A slot's content is another, of the same form; its headers stay. -/
theorem SR.mod {c : Cx} {H : Fp} {S : St} {a : Act} {w : World} (h : SR c H S a w) {k : Nat} {s : Sl} (hs : S[k]? = some s) (c' : V) (hl : like s.c c' = true) (Q : Fp → Prop)
    (hv : ∀ F, VRel c.I w (AR c S a w) s.c (valOf c a k) F → (∀ b, F b ≤ 1) → ∃ F1 F2, F = addF F1 F2 ∧ (∀ A', (∀ d v, AR c S a w d v → A' d v) → VRel c.I w A' c' (valOf c a k) F2) ∧ Q F1) :
    ∃ F1, Q F1 ∧ SR c (addF H F1) (S.set k (s.up0 c')) a w ∧ ∀ d v, AR c S a w d v → AR c (S.set k (s.up0 c')) a w d v := by
  obtain ⟨Fs, g1, g2, g3, g4, g5, g6, g7⟩ := h.slots
  obtain ⟨F1, F2, hF, hv', hQ⟩ := hv (Fs k) (g1 k s hs) (fun b => by have := g2 k b; omega)
  refine ⟨F1, hQ, ?_⟩
  have hnext : ∀ d v, AR c S a w d v → AR c (S.set k (s.up0 c')) a w d v := by
    refine AR.next fun k' s' hs' => ?_
    by_cases e : k = k'
    · subst e
      rw [hs] at hs'
      obtain rfl := Option.some.inj hs'
      refine ⟨_, List.getElem?_set_self (lt_of_get hs), by simp [Sl.up0], by simp [Sl.up0], by simp [Sl.up0], ?_, ?_, ?_⟩
      · intro _ j v hc
        show cellOf w c' (valOf c a k) j = some v
        rw [← cellOf_like hl]
        exact hc
      · intro e; simp [Sl.up0] at e
      · intro _
        refine ⟨rfl, fun ds hds => ?_⟩
        cases c' <;> simp_all [like, Sl.up0]
    · exact ⟨s', by rw [List.getElem?_set_ne e]; exact hs', Nat.le_refl _, Nat.le_refl _, Nat.le_refl _, AR.refl_slot (g1 k' s' hs') (fun _ _ => rfl) rfl⟩
  have hb : ∀ b, Fs k b = F1 b + F2 b := fun b => by rw [hF]; rfl
  refine ⟨?_, hnext⟩
  refine ⟨h.defers, h.size, by simpa using h.len, h.pins, h.os, h.tape, h.output, h.hsize, h.frame, h.imm, fun k' => if k' = k then F2 else Fs k', ?_, ?_, ?_, ?_, ?_, ?_, ?_⟩
  · intro k' s' hs'
    by_cases e : k' = k
    · subst e
      rw [List.getElem?_set_self (lt_of_get hs)] at hs'
      obtain rfl := Option.some.inj hs'
      simp only [if_true]
      exact hv' _ hnext
    · rw [List.getElem?_set_ne (Ne.symm e)] at hs'
      simp only [e, if_false]
      exact (g1 k' s' hs').mono (fun _ _ => rfl) (fun _ _ => rfl) hnext
  · intro k' b
    by_cases e : k' = k
    · subst e; simp only [if_true, addF]; have := g2 k' b; have := hb b; omega
    · simp only [e, if_false, addF]; have := g2 k' b; have := g3 k' k b e; have := g2 k b; have := hb b
      have hh : Fs k' b + H b ≤ 1 := g2 k' b
      have hh2 : Fs k b + H b ≤ 1 := g2 k b
      omega
  · intro k1 k2 b hne
    by_cases e1 : k1 = k <;> by_cases e2 : k2 = k <;> simp only [e1, e2, if_true, if_false]
    · exact absurd (e1.trans e2.symm) hne
    · have := g3 k k2 b (by rw [← e1]; exact hne); have := hb b; omega
    · have := g3 k1 k b (by rw [← e2]; exact hne); have := hb b; omega
    · exact g3 k1 k2 b hne
  · intro b; simp only [addF]; have := g2 k b; have := hb b; omega
  · intro k' b
    by_cases e : k' = k
    · subst e; simp only [if_true]; intro hx; exact g5 k' b (by have := hb b; omega)
    · simp only [e, if_false]; exact g5 k' b
  · intro b hx
    simp only [addF] at hx
    rcases Nat.eq_zero_or_pos (H b) with h0 | h0
    · exact g5 k b (by have := hb b; omega)
    · exact g6 b h0
  · intro k' hk'
    have : k' ≠ k := fun e => by subst e; have := lt_of_get hs; simp at hk'; omega
    simp only [this, if_false]
    exact g7 k' (by simpa using hk')
/-- What is at a place is taken from there. -/
theorem SR.take {c : Cx} {H : Fp} {S : St} {a : Act} {w : World} (h : SR c H S a w) {k : Nat} {s : Sl} (hs : S[k]? = some s) {j : Nat} {st : Option (Nat × Nat)} {d : D} (hd : plD s.c j st = some d) (ho : own d = true) :
    ∃ F v, plV w s.c (valOf c a k) j st = some v ∧ NRel c.I w d v F ∧ SR c (addF H F) (S.set k (s.up0 (plSet s.c j st .dead))) a w ∧ ∀ e u, AR c S a w e u → AR c (S.set k (s.up0 (plSet s.c j st .dead))) a w e u := by
  obtain ⟨F1, ⟨v, h1, h2⟩, h3⟩ := h.mod hs (plSet s.c j st .dead) (like_plSet _ _ _ _) (fun F => ∃ v, plV w s.c (valOf c a k) j st = some v ∧ NRel c.I w d v F) (by
    intro F hv hF
    obtain ⟨x, F1, F2, hx, hn, rfl, hup⟩ := hv.at hF hd (own_plain ho)
    refine ⟨F1, F2, rfl, fun A' hA => ?_, x, hx, hn⟩
    have := hup w A' .dead zF (fun _ _ => rfl) (fun _ _ => rfl) hA rfl (by simp only [NRel])
    rwa [z_addF] at this)
  exact ⟨F1, v, h1, h2, h3⟩
/-- A look at what is at a place. -/
theorem SR.look {c : Cx} {H : Fp} {S : St} {a : Act} {w : World} (h : SR c H S a w) {k : Nat} {s : Sl} (hs : S[k]? = some s) {j : Nat} {st : Option (Nat × Nat)} {d : D} (hd : plD s.c j st = some d) (ho : outAl d = false) :
    ∃ F v, plV w s.c (valOf c a k) j st = some v ∧ NRel c.I w d v F ∧ (∀ b, F b ≤ 1) ∧ (∀ b, F b + H b ≤ 1) ∧ (∀ b, 0 < F b → b < w.heap.size) := by
  obtain ⟨Fs, g1, g2, g3, g4, g5, g6, g7⟩ := h.slots
  obtain ⟨x, F1, F2, hx, hn, hF, hup⟩ := (g1 k s hs).at (fun b => by have := g2 k b; omega) hd ho
  have hb : ∀ b, Fs k b = F1 b + F2 b := fun b => by rw [hF]; rfl
  exact ⟨F1, x, hx, hn, fun b => by have := g2 k b; have := hb b; omega, fun b => by have := g2 k b; have := hb b; omega, fun b hx => (g5 k b (by have := hb b; omega)).1⟩
/-- A slot anew, the machine's own staying. -/
theorem SR.reset {c : Cx} {H F : Fp} {S : St} {a : Act} {w : World} (h : SR c (addF H F) S a w) {d : Nat} {s : Sl} (hs : S[d]? = some s) {x : V} (hv : VRel c.I w (AR c S a w) x (valOf c a d) F) :
    SR c H (S.set d (s.up2 x)) a w := by
  refine h.setU (fun k => k = d) (fun _ => F) (by simp) h.defers h.size h.pins ?_ (fun k hk => hk ▸ lt_of_get hs) ?_ ?_ ?_ ?_
  · intro k hk
    rw [List.getElem?_set_ne (Ne.symm hk)]
    exact ⟨rfl, rfl⟩
  · rintro k s' rfl hs'
    rw [hs] at hs'
    obtain rfl := Option.some.inj hs'
    exact ⟨_, by rw [List.getElem?_set_self (lt_of_get hs)], by simp [Sl.up2], by simp [Sl.up2], by simp [Sl.up2], hv⟩
  · intro k b hk; simp only [addF]; omega
  · intro k k' b hk hk' hne; exact absurd (hk.trans hk'.symm) hne
  · intro b; simp only [addF]; omega
/-- A slot is given up; what it owned goes along. -/
theorem SR.give {c : Cx} {H : Fp} {S : St} {a : Act} {w : World} (h : SR c H S a w) {d : Nat} {s : Sl} (hs : S[d]? = some s) :
    ∃ F, VRel c.I w (AR c S a w) s.c (valOf c a d) F ∧ SR c (addF H F) (S.set d (s.up2 (.leaf .dead))) a w := by
  obtain ⟨Fs, g1, g2, g3, g4, g5, g6, g7⟩ := h.slots
  refine ⟨Fs d, g1 d s hs, ?_⟩
  have hnext : ∀ e v, AR c S a w e v → AR c (S.set d (s.up2 (.leaf .dead))) a w e v := by
    refine AR.next fun k' s' hs' => ?_
    by_cases e : d = k'
    · subst e
      rw [hs] at hs'
      obtain rfl := Option.some.inj hs'
      exact ⟨_, List.getElem?_set_self (lt_of_get hs), by simp [Sl.up2], by simp [Sl.up2], by simp [Sl.up2], fun e => by simp [Sl.up2] at e, fun e => by simp [Sl.up2] at e, fun e => by simp [Sl.up2] at e⟩
    · exact ⟨s', by rw [List.getElem?_set_ne e]; exact hs', Nat.le_refl _, Nat.le_refl _, Nat.le_refl _, AR.refl_slot (g1 k' s' hs') (fun _ _ => rfl) rfl⟩
  refine ⟨h.defers, h.size, by simpa using h.len, h.pins, h.os, h.tape, h.output, h.hsize, h.frame, h.imm, fun k' => if k' = d then zF else Fs k', ?_, ?_, ?_, ?_, ?_, ?_, ?_⟩
  · intro k' s' hs'
    by_cases e : k' = d
    · subst e
      rw [List.getElem?_set_self (lt_of_get hs)] at hs'
      obtain rfl := Option.some.inj hs'
      simp only [if_true, VRel, Sl.up2]
      exact (TRel_plain (d := .dead) rfl).2 (by simp only [NRel])
    · rw [List.getElem?_set_ne (Ne.symm e)] at hs'
      simp only [e, if_false]
      exact (g1 k' s' hs').mono (fun _ _ => rfl) (fun _ _ => rfl) hnext
  · intro k' b
    by_cases e : k' = d
    · subst e; simp only [if_true, addF, zF]; have := g2 k' b; omega
    · simp only [e, if_false, addF]; have := g2 k' b; have := g3 k' d b e; have := g2 d b; omega
  · intro k1 k2 b hne
    by_cases e1 : k1 = d <;> by_cases e2 : k2 = d <;> simp only [e1, e2, if_true, if_false, zF]
    · omega
    · have := g2 k2 b; omega
    · have := g2 k1 b; omega
    · exact g3 k1 k2 b hne
  · intro b; simp only [addF]; have := g2 d b; omega
  · intro k' b
    by_cases e : k' = d
    · subst e; simp only [if_true, zF]; intro hx; omega
    · simp only [e, if_false]; exact g5 k' b
  · intro b hx
    simp only [addF] at hx
    rcases Nat.eq_zero_or_pos (H b) with h0 | h0
    · exact g5 d b (by omega)
    · exact g6 b h0
  · intro k' hk'
    have : k' ≠ d := fun e => by subst e; have := lt_of_get hs; simp at hk'; omega
    simp only [this, if_false]
    exact g7 k' (by simpa using hk')
/-- Another world: what is owned by slots, and what stays as it is, is as it was. -/
theorem SR.world {c : Cx} {H H' : Fp} {S : St} {a : Act} {w w' : World} (h : SR c H S a w) (ho : w'.os = w.os) (ht : w'.tape = w.tape) (hp : w'.output = w.output) (hsz : w.heap.size ≤ w'.heap.size)
    (hf : ∀ b, b < w.heap.size → H b = 0 → w'.heap[b]? = w.heap[b]?)
    (hH1 : ∀ b, H' b ≤ 1) (hH2 : ∀ b, 0 < H' b → b < w'.heap.size ∧ (0 < H b ∨ w.heap.size ≤ b)) : SR c H' S a w' := by
  obtain ⟨Fs, g1, g2, g3, g4, g5, g6, g7⟩ := h.slots
  have hsame : ∀ k b, 0 < Fs k b → w'.heap[b]? = w.heap[b]? := fun k b hb => hf b (g5 k b hb).1 (by have := g2 k b; omega)
  have himm : ∀ b, c.I b → w'.heap[b]? = w.heap[b]? := fun b hb => by
    obtain ⟨i1, i2⟩ := h.imm b hb
    have hlt : b < w.heap.size := Nat.lt_of_lt_of_le i1 h.hsize
    refine hf b hlt ?_
    rcases Nat.eq_zero_or_pos (H b) with h0 | h0
    · exact h0
    · have := (g6 b h0).2 i1; omega
  have hnext : ∀ d v, AR c S a w d v → AR c S a w' d v := AR.next fun k s hs => ⟨s, hs, Nat.le_refl _, Nat.le_refl _, Nat.le_refl _, AR.refl_slot (g1 k s hs) (hsame k) rfl⟩
  refine ⟨h.defers, h.size, h.len, h.pins, ho.trans h.os, ht.trans h.tape, hp.trans h.output, Nat.le_trans h.hsize hsz, ?_, h.imm, Fs, ?_, ?_, g3, hH1, ?_, ?_, g7⟩
  · intro b hb h0
    have hlt : b < w.heap.size := Nat.lt_of_lt_of_le hb h.hsize
    rw [← h.frame b hb h0]
    refine hf b hlt ?_
    rcases Nat.eq_zero_or_pos (H b) with h1 | h1
    · exact h1
    · have := (g6 b h1).2 hb; omega
  · intro k s hs; exact (g1 k s hs).mono himm (hsame k) hnext
  · intro k b
    rcases Nat.eq_zero_or_pos (H' b) with h1 | h1
    · have := g2 k b; omega
    · rcases (hH2 b h1).2 with h2 | h2
      · have := g2 k b; have := hH1 b; omega
      · have h3 : Fs k b = 0 := by
          rcases Nat.eq_zero_or_pos (Fs k b) with h4 | h4
          · exact h4
          · have := (g5 k b h4).1; omega
        have := hH1 b; omega
  · intro k b hb; exact ⟨Nat.lt_of_lt_of_le (g5 k b hb).1 hsz, (g5 k b hb).2⟩
  · intro b hb
    refine ⟨(hH2 b hb).1, fun hlt => ?_⟩
    rcases (hH2 b hb).2 with h2 | h2
    · exact (g6 b h2).2 hlt
    · have := h.hsize; omega
theorem World_heap_alloc (w : World) (o : Obj) (k : Nat) (h : k < w.heap.size) : (w.alloc o).heap[k]? = w.heap[k]? := by
  show (w.heap.push o)[k]? = w.heap[k]?
  rw [Array.getElem?_push, if_neg (Nat.ne_of_lt h)]
/-- A new block. -/
theorem SR.alloc {c : Cx} {H : Fp} {S : St} {a : Act} {w : World} (h : SR c H S a w) (o : Obj) : SR c (addF H (oneF w.heap.size)) S a (w.alloc o) := by
  obtain ⟨Fs, g1, g2, g3, g4, g5, g6, g7⟩ := h.slots
  refine h.world rfl rfl rfl (by simp) (fun b hb _ => World_heap_alloc w o b hb) (fun b => ?_) (fun b hb => ?_)
  · simp only [addF, oneF]
    by_cases e : b = w.heap.size
    · subst e
      have : H w.heap.size = 0 := by
        rcases Nat.eq_zero_or_pos (H w.heap.size) with h0 | h0
        · exact h0
        · have := (g6 _ h0).1; omega
      simp [this]
    · simp [e]; exact g4 b
  · simp only [addF, oneF] at hb
    by_cases e : b = w.heap.size
    · subst e; simp
    · simp [e] at hb
      exact ⟨by have := (g6 b hb).1; simp; omega, .inl hb⟩
theorem SR.drew {c : Cx} {H : Fp} {S : St} {a : Act} {w : World} (h : SR c H S a w) (n : Nat) : SR c H S a { w with drawn := n } := by
  obtain ⟨Fs, g1, g2, g3, g4, g5, g6, g7⟩ := h.slots
  exact h.world rfl rfl rfl (Nat.le_refl _) (fun _ _ _ => rfl) g4 (fun b hb => ⟨(g6 b hb).1, .inl hb⟩)
end Go.Proofs.Vai

namespace Go.Proofs.Vai
open Go

theorem Pg.bind_some {α β : Type} {p : Pg α} {f : α → Pg β} {S : St} {r : β × St} : (p.bind f).run S = some r → ∃ a S1, p.run S = some (a, S1) ∧ (f a).run S1 = some r := by
  induction p generalizing S with
  | ret a => exact fun h => ⟨a, S, rfl, h⟩
  | fail => intro h; simp [Pg.bind, Pg.run] at h
  | rd k g ih =>
    intro h
    simp only [Pg.bind, Pg.run] at h ⊢
    cases hk : S[k]? with
    | none => simp [hk] at h
    | some s => simp only [hk] at h ⊢; exact ih s h
  | wr k s q ih =>
    intro h
    simp only [Pg.bind, Pg.run] at h ⊢
    split at h
    · rename_i hk; simp only [hk, if_true]; exact ih h
    · simp at h
theorem Pg.rd_some {α : Type} {k : Nat} {f : Sl → Pg α} {S : St} {r : α × St} (h : (Pg.rd k f).run S = some r) : ∃ s, S[k]? = some s ∧ (f s).run S = some r := by
  simp only [Pg.run] at h
  cases hk : S[k]? with
  | none => simp [hk] at h
  | some s => exact ⟨s, rfl, by simpa [hk] using h⟩
theorem Pg.wr_some {α : Type} {k : Nat} {s : Sl} {p : Pg α} {S : St} {r : α × St} (h : (Pg.wr k s p).run S = some r) : k < S.length ∧ p.run (S.set k s) = some r := by
  simp only [Pg.run] at h
  split at h
  · rename_i hk; exact ⟨hk, h⟩
  · simp at h
theorem Pg.ret_some {α : Type} {a : α} {S : St} {r : α × St} (h : (Pg.ret a).run S = some r) : r = (a, S) := by
  simp only [Pg.run] at h; exact (Option.some.inj h).symm
theorem Pg.fail_some {α : Type} {S : St} {r : α × St} (h : (Pg.fail : Pg α).run S = some r) : False := by
  simp [Pg.run] at h
theorem Pg.ite_some {α : Type} {b : Prop} [Decidable b] {p : Pg α} {S : St} {r : α × St} (h : (if b then p else Pg.fail).run S = some r) : b ∧ p.run S = some r := by
  by_cases hb : b
  · rw [if_pos hb] at h; exact ⟨hb, h⟩
  · rw [if_neg hb] at h; exact (Pg.fail_some h).elim
theorem Pg.ofOpt_some {α : Type} {o : Option α} {S : St} {r : α × St} (h : (Pg.ofOpt o).run S = some r) : o = some r.1 ∧ r.2 = S := by
  cases o with
  | none => exact (Pg.fail_some h).elim
  | some a => obtain rfl := Pg.ret_some h; exact ⟨rfl, rfl⟩

/-- Constants. -/
def cv : D → Option Value
  | .i k n => some (.int k n)
  | .b t => some (.bool t)
  | .s x => some (.string x)
  | .nilp => some (.pointer none)
  | .sl true _ [] => some (.slice none 0 0)
  | .fn f [] => some (.func (.func f) #[] #[])
  | _ => none
theorem cv_rel {I : Nat → Prop} {w : World} {d : D} {v : Value} (h : cv d = some v) : NRel I w d v zF := by
  unfold cv at h
  split at h <;> first | (obtain rfl := Option.some.inj h) | (simp at h; done)
  · exact ⟨rfl, rfl⟩
  · exact ⟨rfl, rfl⟩
  · exact ⟨rfl, rfl⟩
  · exact ⟨rfl, rfl⟩
  · exact ⟨none, 0, rfl, Nat.le_refl _, .inl ⟨rfl, rfl⟩⟩
  · exact ⟨rfl, #[], rfl, rfl, rfl⟩
/-- An operand of the evaluator's and its value. -/
def XV (c : Cx) (a : Act) : X → Value → Prop
  | .t n, v => v = valOf c a n
  | .c (.leaf d), v => cv d = some v
  | .c (.agg ds), v => ∃ vs : List Value, ds.map cv = vs.map some ∧ v = .agg vs.toArray
  | .c _, _ => False
theorem TRel_of_N {I : Nat → Prop} {w : World} {A : D → Value → Prop} {d : D} {v : Value} {F : Fp} (h : NRel I w d v F) : TRel I w A d v F := by
  cases d with
  | fn f caps =>
    simp only [NRel] at h
    obtain ⟨rfl, vs, rfl, hc, hs⟩ := h
    refine ⟨rfl, vs, rfl, hs, fun j e x h1 h2 => ?_⟩
    obtain ⟨y, F1, F2, hy, hn, hz, _⟩ := CRel.at caps 0 zF hc j e h1
    simp only [Nat.zero_add] at hy
    rw [h2] at hy
    obtain rfl := Option.some.inj hy
    have hz1 : F1 = zF := by funext b; have := congrFun hz b; simp only [addF, zF] at this ⊢; omega
    subst hz1
    cases e <;> first | exact hn | (simp only [NRel] at hn)
  | al k j st n => simp only [NRel] at h
  | bp k off n => simp only [NRel] at h
  | el k j st i off n => simp only [NRel] at h
  | _ => exact h
theorem TCRel_of_C {I : Nat → Prop} {w : World} {A : D → Value → Prop} {g : Nat → Option Value} : ∀ {ds : List D} {o : Nat} {F : Fp}, CRel I w g ds o F → TCRel I w A g ds o F
  | [], _, _, h => by simpa only [CRel, TCRel] using h
  | d :: ds, o, F, h => by
    simp only [CRel] at h
    obtain ⟨x, F1, F2, hx, h1, h2, rfl⟩ := h
    exact ⟨x, F1, F2, hx, TRel_of_N h1, TCRel_of_C h2, rfl⟩
theorem CRel_const {I : Nat → Prop} {w : World} : ∀ (ds : List D) (vs : List Value) (pre : List Value), ds.map cv = vs.map some → CRel I w (fun k => (pre ++ vs).toArray[k]?) ds pre.length zF
  | [], vs, pre, h => rfl
  | d :: ds, [], pre, h => by simp at h
  | d :: ds, v :: vs, pre, h => by
    simp only [List.map_cons, List.cons.injEq] at h
    have := CRel_const (I := I) (w := w) ds vs (pre ++ [v]) h.2
    simp only [List.append_assoc, List.singleton_append, List.length_append, List.length_singleton] at this
    simp only [CRel]
    exact ⟨v, zF, zF, by simp, cv_rel h.1, this, (addF_z _).symm⟩
theorem XV.const {c : Cx} {a : Act} {x : V} {v : Value} {I : Nat → Prop} {w : World} {A : D → Value → Prop} (h : XV c a (.c x) v) : VRel I w A x v zF := by
  cases x with
  | leaf d => exact TRel_of_N (cv_rel h)
  | agg ds =>
    obtain ⟨vs, hv, rfl⟩ := h
    have hl : ds.length = vs.length := by have := congrArg List.length hv; simpa using this
    exact ⟨vs.toArray, rfl, by simp [hl], TCRel_of_C (by simpa using CRel_const (I := I) (w := w) ds vs [] hv)⟩
  | box ds => exact h.elim

theorem notOwn_z {I : Nat → Prop} {w : World} {A : D → Value → Prop} {d : D} {v : Value} {F : Fp} (h : TRel I w A d v F) (ho : own d = false) : F = zF := by
  cases d with
  | sl o wd els =>
    cases o with
    | true => simp [own] at ho
    | false =>
      have h := (TRel_plain (d := .sl false wd els) rfl).1 h
      simp only [NRel] at h; exact h.1
  | mp es => simp [own] at ho
  | al k j st n => exact h.1
  | bp k off n => exact h.1
  | el k j st i off n => exact h.1
  | fn f caps => exact h.1
  | i k n => exact h.2
  | b t => exact h.2
  | s x => exact h.2
  | nilp => exact h.2
  | pt cells => have h := (TRel_plain (d := .pt cells) rfl).1 h; simp only [NRel] at h; exact h.1
  | und => exact h.2
  | dead => exact h
theorem TRel.dup {c : Cx} {S : St} {a : Act} {w : World} {n : Nat} {s : Sl} (hs : S[n]? = some s) {j : Nat} {d : D} {x : Value} {F : Fp} (h : TRel c.I w (AR c S a w) d x F) (hc : cellOf w s.c (valOf c a n) j = some x) :
    TRel c.I w (AR c S a w) (dupD n s j d) x zF := by
  have key : own d = false → dupD n s j d = d → TRel c.I w (AR c S a w) (dupD n s j d) x zF := fun ho e => by
    rw [e]; exact notOwn_z h ho ▸ h
  cases d with
  | sl o wd els =>
    cases o with
    | true => exact ⟨rfl, s, hs, Nat.le_refl _, fun _ => hc⟩
    | false => exact key rfl rfl
  | mp es => exact ⟨rfl, s, hs, Nat.le_refl _, fun _ => hc⟩
  | _ => exact key rfl rfl
theorem TCRel.dup {c : Cx} {S : St} {a : Act} {w : World} {n : Nat} {s : Sl} (hs : S[n]? = some s) {g : Nat → Option Value} : ∀ {ds : List D} {j o : Nat} {F : Fp}, TCRel c.I w (AR c S a w) g ds o F → (∀ i, i < ds.length → cellOf w s.c (valOf c a n) (j + i) = g (o + i)) →
    TCRel c.I w (AR c S a w) g (dupL n s j ds) o zF
  | [], j, o, F, h, _ => rfl
  | d :: ds, j, o, F, h, hc => by
    obtain ⟨x, F1, F2, hx, h1, h2, rfl⟩ := h
    have h0 := hc 0 (by simp)
    simp only [Nat.add_zero] at h0
    refine ⟨x, zF, zF, hx, TRel.dup hs h1 (h0.trans hx), TCRel.dup hs h2 fun i hi => ?_, (addF_z _).symm⟩
    have := hc (i + 1) (by simpa using hi)
    rw [show j + 1 + i = j + (i + 1) from by omega, show o + 1 + i = o + (i + 1) from by omega]
    exact this
theorem dupL_length (n : Nat) (s : Sl) : ∀ (j : Nat) (ds : List D), (dupL n s j ds).length = ds.length
  | _, [] => rfl
  | j, d :: ds => by simp [dupL, dupL_length n s (j + 1) ds]
theorem VRel.dup {c : Cx} {S : St} {a : Act} {w : World} {n : Nat} {s : Sl} (hs : S[n]? = some s) {F : Fp} (h : VRel c.I w (AR c S a w) s.c (valOf c a n) F) : VRel c.I w (AR c S a w) (dupV n s s.c) (valOf c a n) zF := by
  cases hc : s.c with
  | leaf d =>
    rw [hc] at h
    exact TRel.dup hs h (by rw [hc]; rfl)
  | agg ds =>
    rw [hc] at h
    obtain ⟨cs, hv, hl, ht⟩ := h
    refine ⟨cs, hv, by simpa [dupL_length] using hl, TCRel.dup hs ht fun i hi => ?_⟩
    rw [hc, hv]; rfl
  | box ds =>
    rw [hc] at h
    obtain ⟨b, cs, T, F', hv, hb, hl, ht, rfl⟩ := h
    exact ⟨rfl, s, hs, Nat.le_refl _, fun _ => ⟨ds, b, hc, hv, hv⟩⟩
/-- A look at an operand. -/
theorem getV_ok {c : Cx} {H : Fp} {S S' : St} {a : Act} {w : World} (h : SR c H S a w) {x : X} {v : V} (hr : (getV x).run S = some (v, S')) {u : Value} (hx : XV c a x u) : S' = S ∧ VRel c.I w (AR c S a w) v u zF := by
  cases x with
  | c y => obtain ⟨rfl, rfl⟩ := Prod.mk.inj (Pg.ret_some hr); exact ⟨rfl, hx.const⟩
  | t n =>
    obtain ⟨s, hs, hr⟩ := Pg.rd_some hr
    obtain ⟨rfl, rfl⟩ := Prod.mk.inj (Pg.ret_some hr)
    obtain ⟨Fs, g1, _⟩ := h.slots
    refine ⟨rfl, ?_⟩
    rw [hx]
    exact VRel.dup hs (g1 n s hs)
theorem one_ok {v : V} {S S' : St} {d : D} (hr : (V.one v).run S = some (d, S')) : v = .leaf d ∧ S' = S := by
  cases v with
  | leaf e => obtain ⟨rfl, rfl⟩ := Prod.mk.inj (Pg.ret_some hr); exact ⟨rfl, rfl⟩
  | agg ds => exact (Pg.fail_some hr).elim
  | box ds => exact (Pg.fail_some hr).elim
theorem getD_ok {c : Cx} {H : Fp} {S S' : St} {a : Act} {w : World} (h : SR c H S a w) {x : X} {d : D} (hr : (getD x).run S = some (d, S')) {u : Value} (hx : XV c a x u) : S' = S ∧ TRel c.I w (AR c S a w) d u zF := by
  obtain ⟨v, S1, h1, h2⟩ := Pg.bind_some hr
  obtain ⟨rfl, hv⟩ := getV_ok h h1 hx
  obtain ⟨rfl, rfl⟩ := one_ok h2
  exact ⟨rfl, hv⟩
theorem lookAl_ok {k j : Nat} {st : Option (Nat × Nat)} {n : Nat} {S S' : St} {d : D} (hr : (lookAl k j st n).run S = some (d, S')) : S' = S ∧ own d = true ∧ ∃ s, S[k]? = some s ∧ n = s.ver st ∧ plD s.c j st = some d := by
  obtain ⟨s, hs, hr⟩ := Pg.rd_some hr
  obtain ⟨hn, hr⟩ := Pg.ite_some hr
  cases hp : plD s.c j st with
  | none => simp only [hp] at hr; exact (Pg.fail_some hr).elim
  | some e =>
    simp only [hp] at hr
    obtain ⟨ho, hr⟩ := Pg.ite_some hr
    obtain ⟨rfl, rfl⟩ := Prod.mk.inj (Pg.ret_some hr)
    exact ⟨rfl, ho, s, hs, hn, hp⟩
/-- An alias whose counter fits tells the header. -/
theorem AR.hdr {c : Cx} {S : St} {a : Act} {w : World} {k j : Nat} {st : Option (Nat × Nat)} {n : Nat} {u : Value} (h : AR c S a w (.al k j st n) u) {s : Sl} (hs : S[k]? = some s) (hn : n = s.ver st) : plV w s.c (valOf c a k) j st = some u := by
  cases st with
  | none =>
    obtain ⟨s', hs', _, h⟩ := h
    rw [hs] at hs'
    obtain rfl := Option.some.inj hs'
    have := h hn
    simp [plV, this]
  | some il =>
    obtain ⟨i, l⟩ := il
    obtain ⟨s', hs', _, h⟩ := h
    rw [hs] at hs'
    obtain rfl := Option.some.inj hs'
    exact h hn
/-- An alias is taken. -/
theorem takeD_ok {c : Cx} {H : Fp} {S S' : St} {a : Act} {w : World} (h : SR c H S a w) {d d' : D} (hr : (takeD d).run S = some (d', S')) {u : Value} {F : Fp} (ht : TRel c.I w (AR c S a w) d u F) :
    ∃ F', SR c (addF H F') S' a w ∧ NRel c.I w d' u (addF F F') ∧ ∀ e u, AR c S a w e u → AR c S' a w e u := by
  have key : ∀ {S' : St}, (if flat d then Pg.ret d else Pg.fail).run S = some (d', S') → ∃ F', SR c (addF H F') S' a w ∧ NRel c.I w d' u (addF F F') ∧ ∀ e u, AR c S a w e u → AR c S' a w e u := by
    intro S' hr
    obtain ⟨hf, hr⟩ := Pg.ite_some hr
    obtain ⟨rfl, rfl⟩ := Prod.mk.inj (Pg.ret_some hr)
    refine ⟨zF, by rw [addF_z]; exact h, ?_, fun _ _ h => h⟩
    rw [addF_z]
    cases d' with
    | fn f caps =>
      obtain ⟨rfl, vs, rfl, hl, hc⟩ := ht
      simp only [NRel]
      refine ⟨trivial, vs, rfl, ?_, hl⟩
      simp only [flat, List.all_eq_true] at hf
      have : ∀ (l : List D) (o : Nat), (∀ j e, l[j]? = some e → caps[o + j]? = some e) → o + l.length = caps.length → CRel c.I w (fun k => vs[k]?) l o zF := by
        intro l
        induction l with
        | nil => intro o _ _; rfl
        | cons e l ih =>
          intro o h1 h2
          have he := h1 0 e rfl
          simp only [Nat.add_zero] at he
          have hlt : o < vs.size := by rw [hl]; exact lt_of_get he
          have hn := hc o e vs[o] he (by simp [hlt])
          have hfe := hf e (List.mem_of_getElem? he)
          simp only [CRel]
          refine ⟨vs[o], zF, zF, by simp [hlt], ?_, ih (o + 1) (fun j e h => by rw [show o + 1 + j = o + (j + 1) from by omega]; exact h1 (j + 1) e (by simpa using h)) (by simp at h2; omega), (addF_z _).symm⟩
          cases e <;> first | exact hn | (simp at hfe)
      exact this caps 0 (fun j e h => by simpa using h) (by simp)
    | al k j st n => simp [flat] at hf
    | bp k off n => simp [flat] at hf
    | el k j st i off n => simp [flat] at hf
    | _ => exact ht
  cases d with
  | al k j st n =>
    obtain ⟨e, S1, h1, h2⟩ := Pg.bind_some hr
    obtain ⟨rfl, ho, s, hs, hn, hp⟩ := lookAl_ok h1
    obtain ⟨s', hs', h2⟩ := Pg.rd_some h2
    rw [hs] at hs'
    obtain rfl := Option.some.inj hs'
    obtain ⟨_, h2⟩ := Pg.wr_some h2
    obtain ⟨rfl, rfl⟩ := Prod.mk.inj (Pg.ret_some h2)
    obtain ⟨rfl, ha⟩ := ht
    obtain ⟨F', v, hv, hn', hsr, hnext⟩ := h.take hs hp ho
    rw [ha.hdr hs hn] at hv
    obtain rfl := Option.some.inj hv
    exact ⟨F', hsr, by rw [z_addF]; exact hn', hnext⟩
  | _ => exact key hr
theorem takeL_ok {c : Cx} {a : Act} {w : World} {g : Nat → Option Value} : ∀ {ds ds' : List D} {H : Fp} {S S' : St} {o : Nat} {F : Fp}, SR c H S a w → (takeL ds).run S = some (ds', S') → TCRel c.I w (AR c S a w) g ds o F →
    ∃ F', SR c (addF H F') S' a w ∧ CRel c.I w g ds' o (addF F F') ∧ ds'.length = ds.length ∧ ∀ e u, AR c S a w e u → AR c S' a w e u
  | [], ds', H, S, S', o, F, h, hr, ht => by
    obtain ⟨rfl, rfl⟩ := Prod.mk.inj (Pg.ret_some hr)
    exact ⟨zF, by rw [addF_z]; exact h, by rw [addF_z]; simpa only [CRel, TCRel] using ht, rfl, fun _ _ h => h⟩
  | d :: ds, ds', H, S, S', o, F, h, hr, ht => by
    obtain ⟨x, F1, F2, hx, t1, t2, rfl⟩ := ht
    obtain ⟨d', S1, h1, h2⟩ := Pg.bind_some hr
    obtain ⟨ds1, S2, h3, h4⟩ := Pg.bind_some h2
    obtain ⟨rfl, rfl⟩ := Prod.mk.inj (Pg.ret_some h4)
    obtain ⟨G1, sr1, n1, m1⟩ := takeD_ok h h1 t1
    obtain ⟨G2, sr2, n2, l2, m2⟩ := takeL_ok sr1 h3 (t2.mono (fun _ _ _ h _ => h) m1)
    refine ⟨addF G1 G2, by rw [← addF_assoc]; exact sr2, ?_, by simp [l2], fun e u h => m2 e u (m1 e u h)⟩
    simp only [CRel]
    exact ⟨x, addF F1 G1, addF F2 G2, hx, n1, n2, by funext z; simp only [addF]; omega⟩
end Go.Proofs.Vai

namespace Go.Proofs.Vai
open Go

/-- What a taken value is: no alias in it. -/
def VN (I : Nat → Prop) (w : World) : V → Value → Fp → Prop
  | .leaf d, v, F => NRel I w d v F
  | .agg ds, v, F => ∃ cs, v = .agg cs ∧ cs.size = ds.length ∧ CRel I w (fun j => cs[j]?) ds 0 F
  | .box ds, v, F => ∃ b cs T F', v = .pointer (some ⟨b, 0, none⟩) ∧ w.heap[b]? = some (.cells cs T (0, 0)) ∧ cs.size = ds.length ∧ CRel I w (fun j => cs[j]?) ds 0 F' ∧ F = addF (oneF b) F'
theorem VN.rel {I : Nat → Prop} {w : World} {A : D → Value → Prop} {x : V} {v : Value} {F : Fp} (h : VN I w x v F) : VRel I w A x v F := by
  cases x with
  | leaf d => exact TRel_of_N h
  | agg ds => obtain ⟨cs, rfl, hs, hc⟩ := h; exact ⟨cs, rfl, hs, TCRel_of_C hc⟩
  | box ds => exact h
theorem VN.frame {I I' : Nat → Prop} {w w' : World} (hI : ∀ b, I b → I' b) (hi : ∀ b, I b → w'.heap[b]? = w.heap[b]?) {x : V} {v : Value} {F : Fp} (h : VN I w x v F) (hf : ∀ b, 0 < F b → w'.heap[b]? = w.heap[b]?) : VN I' w' x v F := by
  cases x with
  | leaf d => exact NRel.frame hI hi d v F h hf
  | agg ds => obtain ⟨cs, rfl, hs, hc⟩ := h; exact ⟨cs, rfl, hs, CRel.frame hI hi _ _ _ _ hc hf⟩
  | box ds =>
    obtain ⟨b, cs, T, F', rfl, hb, hs, hc, rfl⟩ := h
    exact ⟨b, cs, T, F', rfl, by rw [hf b (by simp only [addF, oneF]; simp; omega)]; exact hb, hs, CRel.frame hI hi _ _ _ _ hc fun x hx => hf x (by simp only [addF]; omega), rfl⟩
theorem VN.const {c : Cx} {a : Act} {x : V} {v : Value} {I : Nat → Prop} {w : World} (h : XV c a (.c x) v) : VN I w x v zF := by
  cases x with
  | leaf d => exact cv_rel h
  | agg ds =>
    obtain ⟨vs, hv, rfl⟩ := h
    have hl : ds.length = vs.length := by have := congrArg List.length hv; simpa using this
    exact ⟨vs.toArray, rfl, by simp [hl], by simpa using CRel_const (I := I) (w := w) ds vs [] hv⟩
  | box ds => exact h.elim

theorem TCRel_notOwn_z {I : Nat → Prop} {w : World} {A : D → Value → Prop} {g : Nat → Option Value} : ∀ {ds : List D} {o : Nat} {F : Fp}, TCRel I w A g ds o F → ds.any own = false → F = zF
  | [], _, _, h, _ => h
  | d :: ds, o, F, h, ho => by
    obtain ⟨x, F1, F2, hx, h1, h2, rfl⟩ := h
    simp only [List.any_cons, Bool.or_eq_false_iff] at ho
    rw [notOwn_z h1 ho.1, TCRel_notOwn_z h2 ho.2, addF_z]
theorem TCRel_kill {I : Nat → Prop} {w : World} {A A' : D → Value → Prop} (hA : ∀ d v, A d v → A' d v) {g : Nat → Option Value} : ∀ {ds : List D} {o : Nat} {F : Fp}, TCRel I w A g ds o F → TCRel I w A' g (ds.map killOwn) o zF
  | [], _, _, h => rfl
  | d :: ds, o, F, h => by
    obtain ⟨x, F1, F2, hx, h1, h2, rfl⟩ := h
    refine ⟨x, zF, zF, hx, ?_, TCRel_kill hA h2, (addF_z _).symm⟩
    unfold killOwn
    by_cases ho : own d = true
    · rw [if_pos ho]; exact (TRel_plain (d := .dead) rfl).2 rfl
    · rw [if_neg ho]
      have := notOwn_z h1 (by simpa using ho)
      subst this
      exact h1.mono (fun _ _ _ h _ => h) hA
/-- All that a slot with several cells owns is taken. -/
theorem SR.takeAll {c : Cx} {H : Fp} {S : St} {a : Act} {w : World} (h : SR c H S a w) {n : Nat} {s : Sl} (hs : S[n]? = some s) {ds : List D} (hc : s.c = .agg ds) :
    ∃ F cs, valOf c a n = .agg cs ∧ cs.size = ds.length ∧ TCRel c.I w (AR c S a w) (fun j => cs[j]?) ds 0 F ∧ SR c (addF H F) (S.set n (s.up0 (.agg (ds.map killOwn)))) a w ∧
      ∀ e u, AR c S a w e u → AR c (S.set n (s.up0 (.agg (ds.map killOwn)))) a w e u := by
  obtain ⟨F1, ⟨cs, h1, h2, h3⟩, h4, h5⟩ := h.mod hs (.agg (ds.map killOwn)) (by rw [hc]; rfl) (fun F => ∃ cs, valOf c a n = .agg cs ∧ cs.size = ds.length ∧ TCRel c.I w (AR c S a w) (fun j => cs[j]?) ds 0 F) (by
    intro F hv hF
    rw [hc] at hv
    obtain ⟨cs, hv, hl, ht⟩ := hv
    exact ⟨F, zF, (addF_z _).symm, fun A' hA => ⟨cs, hv, by simpa using hl, TCRel_kill hA ht⟩, cs, hv, hl, ht⟩)
  exact ⟨F1, cs, h1, h2, h3, h4, h5⟩
theorem AR.give {c : Cx} {H : Fp} {S : St} {a : Act} {w : World} (h : SR c H S a w) {d : Nat} {s : Sl} (hs : S[d]? = some s) (x : V) : ∀ e v, AR c S a w e v → AR c (S.set d (s.up2 x)) a w e v := by
  obtain ⟨Fs, g1, _⟩ := h.slots
  refine AR.next fun k' s' hs' => ?_
  by_cases e : d = k'
  · subst e
    rw [hs] at hs'
    obtain rfl := Option.some.inj hs'
    exact ⟨_, List.getElem?_set_self (lt_of_get hs), by simp [Sl.up2], by simp [Sl.up2], by simp [Sl.up2], fun e => by simp [Sl.up2] at e, fun e => by simp [Sl.up2] at e, fun e => by simp [Sl.up2] at e⟩
  · exact ⟨s', by rw [List.getElem?_set_ne e]; exact hs', Nat.le_refl _, Nat.le_refl _, Nat.le_refl _, AR.refl_slot (g1 k' s' hs') (fun _ _ => rfl) rfl⟩
theorem takeV_ok {c : Cx} {H : Fp} {S S' : St} {a : Act} {w : World} (h : SR c H S a w) {x : X} {v : V} (hr : (takeV x).run S = some (v, S')) {u : Value} (hx : XV c a x u) :
    ∃ F, SR c (addF H F) S' a w ∧ VN c.I w v u F ∧ ∀ e u, AR c S a w e u → AR c S' a w e u := by
  cases x with
  | c y => obtain ⟨rfl, rfl⟩ := Prod.mk.inj (Pg.ret_some hr); exact ⟨zF, by rw [addF_z]; exact h, VN.const hx, fun _ _ h => h⟩
  | t n =>
    obtain ⟨s, hs, hr⟩ := Pg.rd_some hr
    obtain ⟨Fs, g1, _⟩ := h.slots
    have hv := g1 n s hs
    rw [show u = valOf c a n from hx]
    cases hc : s.c with
    | leaf d =>
      simp only [hc] at hr
      by_cases ho : own d = true
      · rw [if_pos ho] at hr
        obtain ⟨_, hr⟩ := Pg.wr_some hr
        obtain ⟨rfl, rfl⟩ := Prod.mk.inj (Pg.ret_some hr)
        obtain ⟨F, v', h1, h2, h3, h4⟩ := h.take hs (j := 0) (st := none) (d := d) (by rw [hc]; rfl) ho
        rw [hc] at h1 h3 h4
        simp [plV, cellOf] at h1
        subst h1
        exact ⟨F, h3, h2, h4⟩
      · rw [if_neg ho] at hr
        obtain ⟨d', S1, h1, h2⟩ := Pg.bind_some hr
        obtain ⟨rfl, rfl⟩ := Prod.mk.inj (Pg.ret_some h2)
        rw [hc] at hv
        have hz := notOwn_z hv (by simpa using ho)
        rw [hz] at hv
        obtain ⟨F', h3, h4, h5⟩ := takeD_ok h h1 hv
        rw [z_addF] at h4
        exact ⟨F', h3, h4, h5⟩
    | agg ds =>
      simp only [hc] at hr
      by_cases ho : ds.any own = true
      · rw [if_pos ho] at hr
        obtain ⟨_, hr⟩ := Pg.wr_some hr
        obtain ⟨ds', S1, h1, h2⟩ := Pg.bind_some hr
        obtain ⟨rfl, rfl⟩ := Prod.mk.inj (Pg.ret_some h2)
        obtain ⟨F, cs, hval, hl, ht, hsr, hm⟩ := h.takeAll hs hc
        obtain ⟨F', h3, h4, h5, h6⟩ := takeL_ok hsr h1 (ht.mono (fun _ _ _ h _ => h) hm)
        refine ⟨addF F F', by rw [← addF_assoc]; exact h3, ⟨cs, hval, by omega, h4⟩, fun e u h => h6 e u (hm e u h)⟩
      · rw [if_neg ho] at hr
        obtain ⟨ds', S1, h1, h2⟩ := Pg.bind_some hr
        obtain ⟨rfl, rfl⟩ := Prod.mk.inj (Pg.ret_some h2)
        rw [hc] at hv
        obtain ⟨cs, hval, hl, ht⟩ := hv
        have hz := TCRel_notOwn_z ht (by simpa using ho)
        rw [hz] at ht
        obtain ⟨F', h3, h4, h5, h6⟩ := takeL_ok h h1 ht
        rw [z_addF] at h4
        exact ⟨F', h3, ⟨cs, hval, by omega, h4⟩, h6⟩
    | box ds =>
      simp only [hc] at hr
      obtain ⟨_, hr⟩ := Pg.wr_some hr
      obtain ⟨rfl, rfl⟩ := Prod.mk.inj (Pg.ret_some hr)
      obtain ⟨F, h1, h2⟩ := h.give hs
      rw [hc] at h1
      exact ⟨F, h2, h1, AR.give h hs _⟩
theorem moveV_ok {c : Cx} {H : Fp} {S S' : St} {a : Act} {w : World} (h : SR c H S a w) {x : X} {v : V} (hr : (moveV x).run S = some (v, S')) {u : Value} (hx : XV c a x u) :
    ∃ F, SR c (addF H F) S' a w ∧ VRel c.I w (AR c S' a w) v u F := by
  cases x with
  | c y => obtain ⟨rfl, rfl⟩ := Prod.mk.inj (Pg.ret_some hr); exact ⟨zF, by rw [addF_z]; exact h, hx.const⟩
  | t n =>
    obtain ⟨s, hs, hr⟩ := Pg.rd_some hr
    obtain ⟨Fs, g1, _⟩ := h.slots
    have hv := g1 n s hs
    rw [show u = valOf c a n from hx]
    cases hc : s.c with
    | leaf d =>
      simp only [hc] at hr
      by_cases ho : own d = true
      · rw [if_pos ho] at hr
        obtain ⟨_, hr⟩ := Pg.wr_some hr
        obtain ⟨rfl, rfl⟩ := Prod.mk.inj (Pg.ret_some hr)
        obtain ⟨F, v', h1, h2, h3, h4⟩ := h.take hs (j := 0) (st := none) (d := d) (by rw [hc]; rfl) ho
        rw [hc] at h1 h3 h4
        simp [plV, cellOf] at h1
        subst h1
        exact ⟨F, h3, TRel_of_N h2⟩
      · rw [if_neg ho] at hr
        obtain ⟨rfl, rfl⟩ := Prod.mk.inj (Pg.ret_some hr)
        rw [hc] at hv
        have hz := notOwn_z hv (by simpa using ho)
        rw [hz] at hv
        exact ⟨zF, by rw [addF_z]; exact h, hv⟩
    | agg ds =>
      simp only [hc] at hr
      by_cases ho : ds.any own = true
      · rw [if_pos ho] at hr
        obtain ⟨_, hr⟩ := Pg.wr_some hr
        obtain ⟨rfl, rfl⟩ := Prod.mk.inj (Pg.ret_some hr)
        obtain ⟨F, cs, hval, hl, ht, hsr, hm⟩ := h.takeAll hs hc
        exact ⟨F, hsr, cs, hval, hl, ht.mono (fun _ _ _ h _ => h) hm⟩
      · rw [if_neg ho] at hr
        obtain ⟨rfl, rfl⟩ := Prod.mk.inj (Pg.ret_some hr)
        rw [hc] at hv
        obtain ⟨cs, hval, hl, ht⟩ := hv
        have hz := TCRel_notOwn_z ht (by simpa using ho)
        rw [hz] at ht
        exact ⟨zF, by rw [addF_z]; exact h, cs, hval, hl, ht⟩
    | box ds =>
      simp only [hc] at hr
      obtain ⟨_, hr⟩ := Pg.wr_some hr
      obtain ⟨rfl, rfl⟩ := Prod.mk.inj (Pg.ret_some hr)
      obtain ⟨F, h1, h2⟩ := h.give hs
      rw [hc] at h1
      exact ⟨F, h2, h1⟩
theorem putS_ok {d : Nat} {x : V} {S S' : St} {r : Unit} (hr : (putS d x).run S = some (r, S')) : ∃ s, S[d]? = some s ∧ S' = S.set d (s.up2 x) := by
  obtain ⟨s, hs, hr⟩ := Pg.rd_some hr
  obtain ⟨_, hr⟩ := Pg.wr_some hr
  obtain ⟨_, rfl⟩ := Prod.mk.inj (Pg.ret_some hr)
  exact ⟨s, hs, rfl⟩
def dstOk (c : Cx) : Option Nat → Prop
  | none => True
  | some d => c.real d
/-- A value is put. -/
theorem SR.putO {c : Cx} {H F : Fp} {S S' : St} {a : Act} {w : World} (h : SR c (addF H F) S a w) {dst : Option Nat} (hd : dstOk c dst) {x : V} {r : Unit} (hr : (putO dst x).run S = some (r, S')) {v : Value} (hv : VRel c.I w (AR c S a w) x v F) : SR c H S' (a.put dst v) w := by
  cases dst with
  | none =>
    obtain ⟨_, rfl⟩ := Prod.mk.inj (Pg.ret_some hr)
    obtain ⟨Fs, g1, g2, g3, g4, g5, g6, g7⟩ := h.slots
    refine h.world rfl rfl rfl (Nat.le_refl _) (fun _ _ _ => rfl) (fun b => ?_) (fun b hb => ⟨(g6 b (by simp only [addF]; omega)).1, .inl (by simp only [addF]; omega)⟩)
    have := g4 b; simp only [addF] at this; omega
  | some d =>
    obtain ⟨s, hs, rfl⟩ := putS_ok hr
    exact h.put hd hs hv
theorem SR.drop {c : Cx} {H F : Fp} {S : St} {a : Act} {w : World} (h : SR c (addF H F) S a w) : SR c H S a w := by
  obtain ⟨Fs, g1, g2, g3, g4, g5, g6, g7⟩ := h.slots
  refine h.world rfl rfl rfl (Nat.le_refl _) (fun _ _ _ => rfl) (fun b => ?_) (fun b hb => ⟨(g6 b (by simp only [addF]; omega)).1, .inl (by simp only [addF]; omega)⟩)
  have := g4 b; simp only [addF] at this; omega
end Go.Proofs.Vai

namespace Go.Proofs.Vai
open Go

mutual
/-- What is read alone. -/
theorem NRel.fl {I I' : Nat → Prop} {w : World} (hI : ∀ b, I b → I' b) : ∀ (d : D) (v : Value) (F : Fp), NRel I w d v F → (∀ b, 0 < F b → I' b) → NRel I' w (fl d) v zF
  | .i k n, v, F, h, _ => by simp only [NRel, Vai.fl] at h ⊢; exact ⟨h.1, trivial⟩
  | .b t, v, F, h, _ => by simp only [NRel, Vai.fl] at h ⊢; exact ⟨h.1, trivial⟩
  | .s x, v, F, h, _ => by simp only [NRel, Vai.fl] at h ⊢; exact ⟨h.1, trivial⟩
  | .nilp, v, F, h, _ => by simp only [NRel, Vai.fl] at h ⊢; exact ⟨h.1, trivial⟩
  | .und, v, F, h, _ => by simp only [NRel, Vai.fl] at h ⊢; exact ⟨h.1, trivial⟩
  | .dead, v, F, h, _ => by simp only [NRel, Vai.fl]
  | .mp es, v, F, h, _ => by simp only [NRel, Vai.fl]
  | .al _ _ _ _, v, F, h, _ => by simp only [NRel] at h
  | .bp _ _ _, v, F, h, _ => by simp only [NRel] at h
  | .el _ _ _ _ _ _, v, F, h, _ => by simp only [NRel] at h
  | .sl true wd els, v, F, h, hF => by
    simp only [NRel] at h
    obtain ⟨a, cap, rfl, hc, h⟩ := h
    simp only [Vai.fl, NRel]
    refine ⟨trivial, a, cap, by rw [flRows_length], by rw [flRows_length]; exact hc, ?_⟩
    rcases h with ⟨rfl, rfl⟩ | ⟨b, o, cs, T, F', rfl, hw, hb, hs, hr, rfl⟩
    · have : els = [] := List.length_eq_zero_iff.1 (by omega)
      subst this; exact .inl rfl
    · exact .inr ⟨b, o, cs, T, (0, 0), rfl, hF b (by simp only [addF, oneF]; simp; omega), hb, RRel.fl hI _ els o F' hr fun x hx => hF x (by simp only [addF]; omega)⟩
  | .sl false wd els, v, F, h, hF => by
    simp only [NRel] at h
    obtain ⟨rfl, a, cap, rfl, hc, h⟩ := h
    simp only [Vai.fl, NRel]
    refine ⟨trivial, a, cap, by rw [flRows_length], by rw [flRows_length]; exact hc, ?_⟩
    rcases h with rfl | ⟨b, o, cs, T, fr, rfl, hb, hg, hr⟩
    · exact .inl rfl
    · exact .inr ⟨b, o, cs, T, fr, rfl, hI b hb, hg, RRel.fl hI _ els o zF hr fun x hx => absurd hx (by simp [zF])⟩
  | .pt cells, v, F, h, hF => by
    simp only [NRel] at h
    obtain ⟨rfl, b, o, cs, T, fr, rfl, hb, hg, hr⟩ := h
    simp only [Vai.fl, NRel]
    exact ⟨trivial, b, o, cs, T, fr, rfl, hI b hb, hg, CRel.fl hI _ cells o zF hr fun x hx => absurd hx (by simp [zF])⟩
  | .fn f caps, v, F, h, hF => by
    simp only [NRel] at h
    obtain ⟨rfl, vs, rfl, hr, hl⟩ := h
    simp only [Vai.fl, NRel]
    exact ⟨trivial, vs, rfl, CRel.fl hI _ caps 0 zF hr fun x hx => absurd hx (by simp [zF]), by rw [flCells_length]; exact hl⟩
theorem CRel.fl {I I' : Nat → Prop} {w : World} (hI : ∀ b, I b → I' b) (g : Nat → Option Value) : ∀ (ds : List D) (o : Nat) (F : Fp), CRel I w g ds o F → (∀ b, 0 < F b → I' b) → CRel I' w g (flCells ds) o zF
  | [], o, F, h, _ => by simp only [CRel, flCells]
  | d :: ds, o, F, h, hF => by
    simp only [CRel] at h
    obtain ⟨x, F1, F2, hx, h1, h2, rfl⟩ := h
    simp only [CRel, flCells]
    exact ⟨x, zF, zF, hx, NRel.fl hI d x F1 h1 fun b hb => hF b (by simp only [addF]; omega), CRel.fl hI g ds _ F2 h2 fun b hb => hF b (by simp only [addF]; omega), (addF_z _).symm⟩
theorem RRel.fl {I I' : Nat → Prop} {w : World} (hI : ∀ b, I b → I' b) {wd : Nat} (g : Nat → Option Value) : ∀ (rs : List (List D)) (o : Nat) (F : Fp), RRel I w wd g rs o F → (∀ b, 0 < F b → I' b) → RRel I' w wd g (flRows rs) o zF
  | [], o, F, h, _ => by simp only [RRel, flRows]
  | r :: rs, o, F, h, hF => by
    simp only [RRel] at h
    obtain ⟨F1, F2, hl, h1, h2, rfl⟩ := h
    simp only [RRel, flRows]
    exact ⟨zF, zF, by rw [flCells_length]; exact hl, CRel.fl hI g r o F1 h1 fun b hb => hF b (by simp only [addF]; omega), RRel.fl hI g rs _ F2 h2 fun b hb => hF b (by simp only [addF]; omega), (addF_z _).symm⟩
theorem flCells_length : ∀ (ds : List D), (flCells ds).length = ds.length
  | [] => rfl
  | d :: ds => by simp [flCells, flCells_length ds]
theorem flRows_length : ∀ (rs : List (List D)), (flRows rs).length = rs.length
  | [] => rfl
  | r :: rs => by simp [flRows, flRows_length rs]
end
mutual
/-- What is its own leads to nothing else. -/
theorem NRel.owned {I I' : Nat → Prop} {w : World} : ∀ (d : D) (v : Value) (F : Fp), NRel I w d v F → owned d = true → NRel I' w d v F
  | .i k n, v, F, h, _ => by simpa only [NRel] using h
  | .b t, v, F, h, _ => by simpa only [NRel] using h
  | .s x, v, F, h, _ => by simpa only [NRel] using h
  | .nilp, v, F, h, _ => by simpa only [NRel] using h
  | .und, v, F, h, _ => by simpa only [NRel] using h
  | .dead, v, F, h, _ => by simpa only [NRel] using h
  | .mp es, v, F, h, ho => by simp [Vai.owned] at ho
  | .al _ _ _ _, v, F, h, _ => by simp only [NRel] at h
  | .bp _ _ _, v, F, h, _ => by simp only [NRel] at h
  | .el _ _ _ _ _ _, v, F, h, _ => by simp only [NRel] at h
  | .pt cells, v, F, h, ho => by simp [Vai.owned] at ho
  | .fn f caps, v, F, h, ho => by simp [Vai.owned] at ho
  | .sl true wd els, v, F, h, ho => by
    simp only [Vai.owned, Bool.true_or, Bool.true_and] at ho
    simp only [NRel] at h ⊢
    obtain ⟨a, cap, rfl, hc, h⟩ := h
    refine ⟨a, cap, rfl, hc, ?_⟩
    rcases h with h | ⟨b, o, cs, T, F', rfl, hw, hb, hs, hr, rfl⟩
    · exact .inl h
    · exact .inr ⟨b, o, cs, T, F', rfl, hw, hb, hs, RRel.owned _ els o F' hr ho, rfl⟩
  | .sl false wd els, v, F, h, ho => by
    simp only [Vai.owned, Bool.false_or, Bool.and_eq_true, List.isEmpty_iff] at ho
    simp only [NRel] at h ⊢
    obtain ⟨rfl, a, cap, rfl, hc, h⟩ := h
    exact ⟨rfl, a, cap, rfl, hc, .inl ho.1⟩
theorem CRel.owned {I I' : Nat → Prop} {w : World} (g : Nat → Option Value) : ∀ (ds : List D) (o : Nat) (F : Fp), CRel I w g ds o F → ownedCells ds = true → CRel I' w g ds o F
  | [], o, F, h, _ => by simpa only [CRel] using h
  | d :: ds, o, F, h, ho => by
    simp only [CRel] at h ⊢
    simp only [ownedCells, Bool.and_eq_true] at ho
    obtain ⟨x, F1, F2, hx, h1, h2, rfl⟩ := h
    exact ⟨x, F1, F2, hx, NRel.owned d x F1 h1 ho.1, CRel.owned g ds _ F2 h2 ho.2, rfl⟩
theorem RRel.owned {I I' : Nat → Prop} {w : World} {wd : Nat} (g : Nat → Option Value) : ∀ (rs : List (List D)) (o : Nat) (F : Fp), RRel I w wd g rs o F → ownedRows rs = true → RRel I' w wd g rs o F
  | [], o, F, h, _ => by simpa only [RRel] using h
  | r :: rs, o, F, h, ho => by
    simp only [RRel] at h ⊢
    simp only [ownedRows, Bool.and_eq_true] at ho
    obtain ⟨F1, F2, hl, h1, h2, rfl⟩ := h
    exact ⟨F1, F2, hl, CRel.owned g r o F1 h1 ho.1, RRel.owned g rs _ F2 h2 ho.2, rfl⟩
end
theorem VN.owned {I I' : Nat → Prop} {w : World} {x : V} {v : Value} {F : Fp} (h : VN I w x v F) (ho : x.owned = true) : VN I' w x v F := by
  cases x with
  | leaf d => exact NRel.owned d v F h (by simpa [V.owned, V.cells, ownedCells] using ho)
  | agg ds => obtain ⟨cs, rfl, hs, hc⟩ := h; exact ⟨cs, rfl, hs, CRel.owned _ _ _ _ hc ho⟩
  | box ds => obtain ⟨b, cs, T, F', rfl, hb, hs, hc, rfl⟩ := h; exact ⟨b, cs, T, F', rfl, hb, hs, CRel.owned _ _ _ _ hc ho, rfl⟩

/-! ### Views -/
/-- What a view may lean on: what stays as it is, and what slots own. -/
structure Vw (c : Cx) (S : St) (a : Act) (w : World) (I' : Nat → Prop) (fl : Bool) : Prop where
  imm : ∀ b, c.I b → I' b
  own : fl = true → ∃ Fs : Nat → Fp, (∀ k s, S[k]? = some s → VRel c.I w (AR c S a w) s.c (valOf c a k) (Fs k)) ∧ (∀ k b, 0 < Fs k b → I' b) ∧ ∀ k b, Fs k b ≤ 1
theorem CRel.drop {I : Nat → Prop} {w : World} {g : Nat → Option Value} {ds : List D} {o : Nat} {F : Fp} (h : CRel I w g ds o F) (n : Nat) (hn : n ≤ ds.length) : ∃ F1 F2, CRel I w g (ds.drop n) (o + n) F2 ∧ F = addF F1 F2 := by
  rw [← List.take_append_drop n ds] at h
  obtain ⟨F1, F2, h1, h2, rfl⟩ := (CRel.app _ _ _ _).1 h
  exact ⟨F1, F2, by simpa [Nat.min_eq_left hn] using h2, rfl⟩
theorem viewC_ok {c : Cx} {S S' : St} {a : Act} {w : World} {d d' : D} {f : Bool} (hr : (viewC d).run S = some ((d', f), S')) :
    S' = S ∧ ∀ I' F u, TRel c.I w (AR c S a w) d u F → Vw c S a w I' f → (f = true → ∀ b, 0 < F b → I' b) → NRel I' w d' u zF := by
  have plain : ∀ {e : D}, outAl e = false → own e = false → ∀ I' F u, TRel c.I w (AR c S a w) e u F → Vw c S a w I' false → (false = true → ∀ b, 0 < F b → I' b) → NRel I' w e u zF := fun hp ho I' F u ht hv _ => by
    have := notOwn_z ht ho
    subst this
    exact NRel.frame hv.imm (fun _ _ => rfl) _ _ _ ((TRel_plain hp).1 ht) fun _ _ => rfl
  cases d with
  | sl o wd els =>
    cases o with
    | true =>
      obtain ⟨h1, rfl⟩ := Prod.mk.inj (Pg.ret_some hr)
      obtain ⟨rfl, rfl⟩ := Prod.mk.inj h1
      exact ⟨rfl, fun I' F u ht hv hF => NRel.fl hv.imm _ _ _ ((TRel_plain (d := .sl true wd els) rfl).1 ht) (hF rfl)⟩
    | false => obtain ⟨h1, rfl⟩ := Prod.mk.inj (Pg.ret_some hr); obtain ⟨rfl, rfl⟩ := Prod.mk.inj h1; exact ⟨rfl, plain rfl rfl⟩
  | i k n => obtain ⟨h1, rfl⟩ := Prod.mk.inj (Pg.ret_some hr); obtain ⟨rfl, rfl⟩ := Prod.mk.inj h1; exact ⟨rfl, plain rfl rfl⟩
  | b t => obtain ⟨h1, rfl⟩ := Prod.mk.inj (Pg.ret_some hr); obtain ⟨rfl, rfl⟩ := Prod.mk.inj h1; exact ⟨rfl, plain rfl rfl⟩
  | s x => obtain ⟨h1, rfl⟩ := Prod.mk.inj (Pg.ret_some hr); obtain ⟨rfl, rfl⟩ := Prod.mk.inj h1; exact ⟨rfl, plain rfl rfl⟩
  | nilp => obtain ⟨h1, rfl⟩ := Prod.mk.inj (Pg.ret_some hr); obtain ⟨rfl, rfl⟩ := Prod.mk.inj h1; exact ⟨rfl, plain rfl rfl⟩
  | pt cs => obtain ⟨h1, rfl⟩ := Prod.mk.inj (Pg.ret_some hr); obtain ⟨rfl, rfl⟩ := Prod.mk.inj h1; exact ⟨rfl, plain rfl rfl⟩
  | fn f caps => exact (Pg.fail_some hr).elim
  | mp es => exact (Pg.fail_some hr).elim
  | und => exact (Pg.fail_some hr).elim
  | dead => exact (Pg.fail_some hr).elim
  | al k j st n =>
    obtain ⟨e, S1, h1, h2⟩ := Pg.bind_some hr
    obtain ⟨rfl, ho', s, hs, hn, hp⟩ := lookAl_ok h1
    cases e with
    | sl o wd els =>
      cases o with
      | true =>
        obtain ⟨h3, rfl⟩ := Prod.mk.inj (Pg.ret_some h2)
        obtain ⟨rfl, rfl⟩ := Prod.mk.inj h3
        refine ⟨rfl, fun I' F u ht hv _ => ?_⟩
        have ha := ht.2
        obtain ⟨Fs, g1, g2, g3⟩ := hv.own rfl
        obtain ⟨x, F1, F2, hx, hn', hF, _⟩ := (g1 k s hs).at (g3 k) hp rfl
        rw [ha.hdr hs hn] at hx
        obtain rfl := Option.some.inj hx
        exact NRel.fl hv.imm _ _ _ hn' fun b hb => g2 k b (by rw [hF]; simp only [addF]; omega)
      | false => exact (Pg.fail_some h2).elim
    | _ => exact (Pg.fail_some h2).elim
  | bp k off n =>
    obtain ⟨s, hs, hr⟩ := Pg.rd_some hr
    obtain ⟨hn, hr⟩ := Pg.ite_some hr
    cases hc : s.c with
    | leaf _ => simp only [hc] at hr; exact (Pg.fail_some hr).elim
    | agg _ => simp only [hc] at hr; exact (Pg.fail_some hr).elim
    | box ds =>
    simp only [hc] at hr
    obtain ⟨hcond, hr⟩ := Pg.ite_some hr
    obtain ⟨h3, rfl⟩ := Prod.mk.inj (Pg.ret_some hr)
    obtain ⟨rfl, rfl⟩ := Prod.mk.inj h3
    refine ⟨rfl, fun I' F u ht hv _ => ?_⟩
    obtain ⟨s', hs', _, ha⟩ := ht.2
    rw [hs] at hs'
    obtain rfl := Option.some.inj hs'
    obtain ⟨ds', b, hc', hval, rfl⟩ := ha hn
    rw [hc] at hc'
    obtain rfl : ds = ds' := by simpa using hc'
    obtain ⟨Fs, g1, g2, g3⟩ := hv.own rfl
    have hg := g1 k s hs
    rw [hc] at hg
    obtain ⟨b', cs, T, F', hval', hb, hl, hcr, hF⟩ := hg
    rw [hval] at hval'
    obtain rfl : b = b' := by simpa using hval'
    simp only [Bool.and_eq_true, decide_eq_true_eq] at hcond
    obtain ⟨G1, G2, hd, rfl⟩ := hcr.drop off hcond.2
    simp only [NRel]
    refine ⟨trivial, b, off, cs, T, (0, 0), rfl, g2 k b (by rw [hF]; simp only [addF, oneF]; simp; omega), hb, ?_⟩
    rw [Nat.zero_add] at hd
    exact CRel.fl hv.imm _ _ _ _ hd fun x hx => g2 k x (by rw [hF]; simp only [addF]; omega)
  | el k j st i off n =>
    obtain ⟨s, hs, hr⟩ := Pg.rd_some hr
    obtain ⟨hn, hr⟩ := Pg.ite_some hr
    split at hr
    case h_2 => exact (Pg.fail_some hr).elim
    rename_i wd rows hd
    cases hri : rows[i]? with
    | none => simp only [hri] at hr; exact (Pg.fail_some hr).elim
    | some r =>
      simp only [hri] at hr
      obtain ⟨hoff, hr⟩ := Pg.ite_some hr
      obtain ⟨h3, rfl⟩ := Prod.mk.inj (Pg.ret_some hr)
      obtain ⟨rfl, rfl⟩ := Prod.mk.inj h3
      refine ⟨rfl, fun I' F u ht hv _ => ?_⟩
      obtain ⟨s', hs', _, ha⟩ := ht.2
      rw [hs] at hs'
      obtain rfl := Option.some.inj hs'
      obtain ⟨wd', rows', b, o, len, cap, hd', hpv, hlt, rfl⟩ := ha hn
      rw [hd] at hd'
      obtain ⟨_, rfl, rfl⟩ : True ∧ wd = wd' ∧ rows = rows' := by simpa using hd'
      obtain ⟨Fs, g1, g2, g3⟩ := hv.own rfl
      obtain ⟨x, F1, F2, hx, hn', hF, _⟩ := (g1 k s hs).at (g3 k) hd rfl
      rw [hpv] at hx
      obtain rfl := Option.some.inj hx
      have hk : ∀ b, Fs k b = F1 b + F2 b := fun b => by rw [hF]; rfl
      obtain ⟨b', o', cap', cs, T, G1, G2, he, hb, hsz, hl, hcr, rfl, _⟩ := hn'.row (fun b => by have := g3 k b; have := hk b; omega) hri
      injection he with e1 e2 e3
      injection e1 with e1
      injection e1 with e1 e4 _
      subst e1 e4
      obtain ⟨K1, K2, hdr, rfl⟩ := hcr.drop off hoff
      simp only [NRel]
      exact ⟨trivial, b, _, cs, T, (0, 0), rfl, g2 k b (by rw [hk]; simp only [addF, oneF]; simp; omega), hb, CRel.fl hv.imm _ _ _ _ hdr fun x hx => g2 k x (by rw [hk]; simp only [addF]; omega)⟩
end Go.Proofs.Vai

namespace Go.Proofs.Vai
open Go

theorem Vw.weak {c : Cx} {S : St} {a : Act} {w : World} {I' : Nat → Prop} {f g : Bool} (h : Vw c S a w I' (f || g)) : Vw c S a w I' f ∧ Vw c S a w I' g :=
  ⟨⟨h.imm, fun e => h.own (by simp [e])⟩, ⟨h.imm, fun e => h.own (by simp [e])⟩⟩
theorem viewL_ok {c : Cx} {a : Act} {w : World} : ∀ {ds ds' : List D} {f : Bool} {S S' : St}, (viewL ds).run S = some ((ds', f), S') →
    S' = S ∧ ds'.length = ds.length ∧ ∀ I' (g : Nat → Option Value) (o : Nat), (∀ j d, ds[j]? = some d → ∃ u, g (o + j) = some u ∧ TRel c.I w (AR c S a w) d u zF) → Vw c S a w I' f → CRel I' w g ds' o zF
  | [], ds', f, S, S', hr => by
    obtain ⟨h1, rfl⟩ := Prod.mk.inj (Pg.ret_some hr)
    obtain ⟨rfl, rfl⟩ := Prod.mk.inj h1
    exact ⟨rfl, rfl, fun I' g o _ _ => rfl⟩
  | d :: ds, ds', f, S, S', hr => by
    obtain ⟨p, S1, h1, h2⟩ := Pg.bind_some hr
    obtain ⟨q, S2, h3, h4⟩ := Pg.bind_some h2
    obtain ⟨h5, rfl⟩ := Prod.mk.inj (Pg.ret_some h4)
    obtain ⟨rfl, rfl⟩ := Prod.mk.inj h5
    obtain ⟨p1, p2⟩ := p
    obtain ⟨q1, q2⟩ := q
    obtain ⟨rfl, v1⟩ := viewC_ok (c := c) (a := a) (w := w) h1
    obtain ⟨rfl, l1, v2⟩ := viewL_ok (c := c) (a := a) (w := w) h3
    refine ⟨rfl, by simp [l1], fun I' g o hg hv => ?_⟩
    obtain ⟨u, hu, ht⟩ := hg 0 d rfl
    simp only [CRel]
    exact ⟨u, zF, zF, hu, v1 I' zF u ht hv.weak.1 (fun _ b hb => absurd hb (by simp [zF])), v2 I' g (o + 1) (fun j e he => by
      obtain ⟨u, hu, ht⟩ := hg (j + 1) e (by simpa using he)
      exact ⟨u, by rw [show o + 1 + j = o + (j + 1) from by omega]; exact hu, ht⟩) hv.weak.2, (addF_z _).symm⟩
theorem viewD_ok {c : Cx} {S S' : St} {a : Act} {w : World} {d d' : D} {f : Bool} (hr : (viewD d).run S = some ((d', f), S')) :
    S' = S ∧ ∀ I' F u, TRel c.I w (AR c S a w) d u F → Vw c S a w I' f → (f = true → ∀ b, 0 < F b → I' b) → NRel I' w d' u zF := by
  cases d with
  | fn fi caps =>
    obtain ⟨p, S1, h1, h2⟩ := Pg.bind_some hr
    obtain ⟨h3, rfl⟩ := Prod.mk.inj (Pg.ret_some h2)
    obtain ⟨rfl, rfl⟩ := Prod.mk.inj h3
    obtain ⟨p1, p2⟩ := p
    obtain ⟨rfl, l1, v1⟩ := viewL_ok (c := c) (a := a) (w := w) h1
    refine ⟨rfl, fun I' F u ht hv _ => ?_⟩
    obtain ⟨_, vs, rfl, hl, hc⟩ := ht
    simp only [NRel]
    refine ⟨trivial, vs, rfl, v1 I' _ 0 (fun j e he => ?_) hv, by rw [l1]; exact hl⟩
    have hlt : j < vs.size := by rw [hl]; exact lt_of_get he
    refine ⟨vs[j], by simp [hlt], ?_⟩
    have := hc j e vs[j] he (by simp [hlt])
    cases e <;> first | exact ⟨rfl, this⟩ | exact TRel_of_N this
  | _ => exact viewC_ok hr
theorem viewDs_ok {c : Cx} {a : Act} {w : World} : ∀ {ds ds' : List D} {f : Bool} {S S' : St}, (viewDs ds).run S = some ((ds', f), S') →
    S' = S ∧ ds'.length = ds.length ∧ ∀ I' (g : Nat → Option Value) (o : Nat) F, TCRel c.I w (AR c S a w) g ds o F → Vw c S a w I' f → (f = true → ∀ b, 0 < F b → I' b) → CRel I' w g ds' o zF
  | [], ds', f, S, S', hr => by
    obtain ⟨h1, rfl⟩ := Prod.mk.inj (Pg.ret_some hr)
    obtain ⟨rfl, rfl⟩ := Prod.mk.inj h1
    exact ⟨rfl, rfl, fun I' g o F _ _ _ => rfl⟩
  | d :: ds, ds', f, S, S', hr => by
    obtain ⟨p, S1, h1, h2⟩ := Pg.bind_some hr
    obtain ⟨q, S2, h3, h4⟩ := Pg.bind_some h2
    obtain ⟨h5, rfl⟩ := Prod.mk.inj (Pg.ret_some h4)
    obtain ⟨rfl, rfl⟩ := Prod.mk.inj h5
    obtain ⟨p1, p2⟩ := p
    obtain ⟨q1, q2⟩ := q
    obtain ⟨rfl, v1⟩ := viewD_ok (c := c) (a := a) (w := w) h1
    obtain ⟨rfl, l1, v2⟩ := viewDs_ok (c := c) (a := a) (w := w) h3
    refine ⟨rfl, by simp [l1], fun I' g o F ht hv hF => ?_⟩
    obtain ⟨u, F1, F2, hu, t1, t2, rfl⟩ := ht
    simp only [CRel]
    exact ⟨u, zF, zF, hu, v1 I' F1 u t1 hv.weak.1 (fun e b hb => hF (by simp [e]) b (by simp only [addF]; omega)), v2 I' g (o + 1) F2 t2 hv.weak.2 (fun e b hb => hF (by simp [e]) b (by simp only [addF]; omega)), (addF_z _).symm⟩
theorem viewV_ok {c : Cx} {H : Fp} {S S' : St} {a : Act} {w : World} (h : SR c H S a w) {x : X} {v : V} {f : Bool} (hr : (viewV x).run S = some ((v, f), S')) {u : Value} (hx : XV c a x u) :
    S' = S ∧ ∀ I', Vw c S a w I' f → VN I' w v u zF := by
  cases x with
  | c y =>
    unfold viewV at hr
    split at hr
    · rename_i wd heq
      obtain rfl := X.c.inj heq
      obtain ⟨h1, rfl⟩ := Prod.mk.inj (Pg.ret_some hr)
      obtain ⟨rfl, rfl⟩ := Prod.mk.inj h1
      have hx : some (Value.slice none 0 0) = some u := hx
      obtain rfl := Option.some.inj hx
      refine ⟨rfl, fun I' _ => ?_⟩
      simp only [VN, NRel]
      exact ⟨trivial, none, 0, rfl, Nat.le_refl _, .inl trivial⟩
    · rename_i fi heq
      obtain rfl := X.c.inj heq
      obtain ⟨h1, rfl⟩ := Prod.mk.inj (Pg.ret_some hr)
      obtain ⟨rfl, rfl⟩ := Prod.mk.inj h1
      exact ⟨rfl, fun I' _ => VN.const hx⟩
    · rename_i d _ _ heq
      obtain rfl := X.c.inj heq
      obtain ⟨hp, hr⟩ := Pg.ite_some hr
      obtain ⟨h1, rfl⟩ := Prod.mk.inj (Pg.ret_some hr)
      obtain ⟨rfl, rfl⟩ := Prod.mk.inj h1
      exact ⟨rfl, fun I' _ => VN.const hx⟩
    · exact (Pg.fail_some hr).elim
    · rename_i heq; cases heq
  | t n =>
    obtain ⟨s, hs, hr⟩ := Pg.rd_some hr
    rw [show u = valOf c a n from hx]
    have hsl := h.slots
    have both : ∀ I', Vw c S a w I' f → ∃ F, VRel c.I w (AR c S a w) s.c (valOf c a n) F ∧ (f = true → ∀ b, 0 < F b → I' b) := by
      intro I' hv
      cases hf : f with
      | true => obtain ⟨Fs, g1, g2, g3⟩ := hv.own hf; exact ⟨Fs n, g1 n s hs, fun _ => g2 n⟩
      | false => obtain ⟨Fs, g1, _⟩ := hsl; exact ⟨Fs n, g1 n s hs, fun e => by cases e⟩
    cases hc : s.c with
    | leaf d =>
      simp only [hc] at hr
      obtain ⟨p, S1, h1, h2⟩ := Pg.bind_some hr
      obtain ⟨h3, rfl⟩ := Prod.mk.inj (Pg.ret_some h2)
      obtain ⟨rfl, rfl⟩ := Prod.mk.inj h3
      obtain ⟨p1, p2⟩ := p
      obtain ⟨rfl, v1⟩ := viewD_ok (c := c) (a := a) (w := w) h1
      refine ⟨rfl, fun I' hv => ?_⟩
      obtain ⟨F, hr, hF⟩ := both I' hv
      rw [hc] at hr
      exact v1 I' F _ hr hv hF
    | agg ds =>
      simp only [hc] at hr
      obtain ⟨p, S1, h1, h2⟩ := Pg.bind_some hr
      obtain ⟨h3, rfl⟩ := Prod.mk.inj (Pg.ret_some h2)
      obtain ⟨rfl, rfl⟩ := Prod.mk.inj h3
      obtain ⟨p1, p2⟩ := p
      obtain ⟨rfl, l1, v1⟩ := viewDs_ok (c := c) (a := a) (w := w) h1
      refine ⟨rfl, fun I' hv => ?_⟩
      obtain ⟨F, hr, hF⟩ := both I' hv
      rw [hc] at hr
      obtain ⟨cs, hval, hl, ht⟩ := hr
      exact ⟨cs, hval, by rw [l1]; exact hl, v1 I' _ 0 F ht hv hF⟩
    | box ds =>
      simp only [hc] at hr
      obtain ⟨p, S1, h1, h2⟩ := Pg.bind_some hr
      obtain ⟨h3, rfl⟩ := Prod.mk.inj (Pg.ret_some h2)
      obtain ⟨rfl, rfl⟩ := Prod.mk.inj h3
      obtain ⟨p1, p2⟩ := p
      obtain ⟨rfl, v1⟩ := viewD_ok (c := c) (a := a) (w := w) h1
      refine ⟨rfl, fun I' hv => ?_⟩
      obtain ⟨Fs, g1, _⟩ := hsl
      have hg := g1 n s hs
      rw [hc] at hg
      obtain ⟨b, cs, T, F', hval, hb, hl, hcr, hF⟩ := hg
      exact v1 I' zF _ ⟨rfl, s, hs, Nat.le_refl _, fun _ => ⟨ds, b, hc, hval, hval⟩⟩ hv (fun _ b hb => absurd hb (by simp [zF]))

/-! ### A slot's place that was taken, given back -/
/-- The header of a place. -/
def PlOK (c : Cx) (S : St) (a : Act) (w : World) (p : Pl) (u : Value) : Prop :=
  match p with
  | none => True
  | some (k, j, st) => ∃ s, S[k]? = some s ∧ plD s.c j st = some .dead ∧ plV w s.c (valOf c a k) j st = some u
theorem cells_setCell (v : V) (j : Nat) (f : D → D) (j' : Nat) : (v.setCell j f).cells[j']? = if j' = j then (v.cells[j']?).map f else v.cells[j']? := by
  cases v with
  | leaf d =>
    cases j with
    | zero => cases j' <;> simp [V.setCell, V.cells]
    | succ j => cases j' <;> simp [V.setCell, V.cells]
  | agg ds => simp only [V.setCell, V.cells, List.getElem?_modify]; by_cases e : j = j' <;> simp [e, Ne.symm]
  | box ds => simp only [V.setCell, V.cells, List.getElem?_modify]; by_cases e : j = j' <;> simp [e, Ne.symm]
theorem plD_self {v : V} {j : Nat} {st : Option (Nat × Nat)} {d0 d : D} (h : plD v j st = some d0) : plD (plSet v j st d) j st = some d := by
  unfold plD at h ⊢
  unfold plSet
  rw [cells_setCell, if_pos rfl]
  cases hc : v.cells[j]? with
  | none => simp [hc] at h
  | some e =>
    simp only [hc, Option.map_some] at h ⊢
    cases st with
    | none => rfl
    | some il =>
      obtain ⟨i, l⟩ := il
      simp only [inD] at h ⊢
      split at h
      · rename_i wd rows
        cases hr : rows[i]? with
        | none => simp [hr] at h
        | some r =>
          simp only [hr] at h
          have h1 := lt_of_get hr
          have h2 := lt_of_get h
          simp only [List.getElem?_set_self h1, List.getD_eq_getElem?_getD, hr, Option.getD_some, List.getElem?_set_self h2]
      · simp at h
theorem plD_apart {v : V} {j j' : Nat} {st st' : Option (Nat × Nat)} {d : D} (k : Nat) (hap : apartPl (some (k, j, st)) (some (k, j', st')) = true) : plD (plSet v j st d) j' st' = plD v j' st' := by
  unfold plD plSet
  rw [cells_setCell]
  by_cases e : j' = j
  · subst e
    simp only [apartPl, bne_self_eq_false, Bool.false_or] at hap
    cases st with
    | none => simp at hap
    | some il =>
      obtain ⟨i, l⟩ := il
      cases st' with
      | none => simp at hap
      | some il' =>
        obtain ⟨i', l'⟩ := il'
        simp only [if_true]
        cases hc : v.cells[j']? with
        | none => rfl
        | some e =>
          simp only [Option.map_some, inD]
          cases e with
          | sl o wd rows =>
            cases o with
            | false => rfl
            | true =>
              simp only
              by_cases ei : i' = i
              · subst ei
                simp only [bne_self_eq_false, Bool.false_or, bne_iff_ne, ne_eq] at hap
                rcases Nat.lt_or_ge i' rows.length with hlt | hge
                · simp only [List.getElem?_set_self hlt, List.getD_eq_getElem?_getD, List.getElem?_eq_getElem hlt, Option.getD_some]
                  rw [List.getElem?_set_ne hap]
                · rw [List.getElem?_eq_none (by simpa using hge), List.getElem?_eq_none hge]
              · rw [List.getElem?_set_ne (Ne.symm ei)]
          | _ => rfl
  · rw [if_neg e]
theorem plV_set {w : World} {v : V} {u : Value} {j j' : Nat} {st st' : Option (Nat × Nat)} {d x : D} {y : Value} (k : Nat) (hap : (some (k, j, st) : Pl) = some (k, j', st') ∨ apartPl (some (k, j, st)) (some (k, j', st')) = true) (h0 : plD v j' st' = some x)
    (h : plV w v u j' st' = some y) : plV w (plSet v j st d) u j' st' = some y := by
  unfold plV at h ⊢
  rw [← cellOf_like (like_plSet v j st d)]
  cases hc : cellOf w v u j' with
  | none => simp [hc] at h
  | some z =>
    simp only [hc] at h ⊢
    cases st' with
    | none => exact h
    | some il' =>
      obtain ⟨i', l'⟩ := il'
      dsimp only at h ⊢
      split at h
      · rename_i wd rows p len cap hp
        split at h
        · rename_i hlt
          have hcell : v.cells[j']? = some (.sl true wd rows) := by
            unfold plD at hp
            cases hj : v.cells[j']? with
            | none => simp [hj] at hp
            | some e => simpa [hj] using hp
          have : ∃ rows', plD (plSet v j st d) j' none = some (.sl true wd rows') ∧ rows'.length = rows.length := by
            unfold plD plSet
            rw [cells_setCell]
            by_cases e : j' = j
            · subst e
              rw [if_pos rfl, hcell]
              simp only [Option.map_some]
              cases st with
              | none => rcases hap with e | e <;> simp [apartPl] at e
              | some il => obtain ⟨i, l⟩ := il; simp only [inD]; exact ⟨_, rfl, by simp⟩
            · rw [if_neg e, hcell]; exact ⟨rows, rfl, rfl⟩
          obtain ⟨rows', h1, h2⟩ := this
          simp only [h1, h2, if_pos hlt]
          exact h
        · simp at h
      · simp at h
/-- Given back. -/
theorem SR.back {c : Cx} {H F : Fp} {S : St} {a : Act} {w : World} (h : SR c (addF H F) S a w) {k j : Nat} {st : Option (Nat × Nat)} {u : Value} (hp : PlOK c S a w (some (k, j, st)) u) {s : Sl} (hs : S[k]? = some s) {d : D} (hd : outAl d = false) (hn : NRel c.I w d u F) :
    SR c H (S.set k (s.up0 (plSet s.c j st d))) a w := by
  obtain ⟨s', hs', hdead, hv⟩ := hp
  rw [hs] at hs'
  obtain rfl := Option.some.inj hs'
  -- the slot, with what is held put in
  obtain ⟨Fs, g1, g2, g3, g4, g5, g6, g7⟩ := h.slots
  obtain ⟨x, F1, F2, hx, hn1, hF, hup⟩ := (g1 k s hs).at (fun b => by have := g2 k b; omega) hdead rfl
  rw [hv] at hx
  obtain rfl := Option.some.inj hx
  have hz : F1 = zF := by simpa only [NRel] using hn1
  subst hz
  rw [z_addF] at hF
  have hnext : ∀ d' v, AR c S a w d' v → AR c (S.set k (s.up0 (plSet s.c j st d))) a w d' v := by
    refine AR.next fun k' s' hs' => ?_
    by_cases e : k = k'
    · subst e
      rw [hs] at hs'
      obtain rfl := Option.some.inj hs'
      refine ⟨_, List.getElem?_set_self (lt_of_get hs), by simp [Sl.up0], by simp [Sl.up0], by simp [Sl.up0], ?_, ?_, ?_⟩
      · intro _ j' v' hc
        show cellOf w (plSet s.c j st d) (valOf c a k) j' = some v'
        rw [← cellOf_like (like_plSet _ _ _ _)]
        exact hc
      · intro e; simp [Sl.up0] at e
      · intro _
        refine ⟨rfl, fun ds hds => ?_⟩
        simp only [Sl.up0, plSet, hds, V.setCell]; exact ⟨_, rfl⟩
    · exact ⟨s', by rw [List.getElem?_set_ne e]; exact hs', Nat.le_refl _, Nat.le_refl _, Nat.le_refl _, AR.refl_slot (g1 k' s' hs') (fun _ _ => rfl) rfl⟩
  have hv' := hup w _ d F (fun _ _ => rfl) (fun _ _ => rfl) hnext hd hn
  refine ⟨h.defers, h.size, by simpa using h.len, h.pins, h.os, h.tape, h.output, h.hsize, h.frame, h.imm, fun k' => if k' = k then addF F F2 else Fs k', ?_, ?_, ?_, ?_, ?_, ?_, ?_⟩
  · intro k' s' hs'
    by_cases e : k' = k
    · subst e
      rw [List.getElem?_set_self (lt_of_get hs)] at hs'
      obtain rfl := Option.some.inj hs'
      simp only [if_true]
      exact hv'
    · rw [List.getElem?_set_ne (Ne.symm e)] at hs'
      simp only [e, if_false]
      exact (g1 k' s' hs').mono (fun _ _ => rfl) (fun _ _ => rfl) hnext
  · intro k' b
    by_cases e : k' = k
    · subst e; simp only [if_true, addF]; have := g2 k' b; rw [hF] at this; simp only [addF] at this; omega
    · simp only [e, if_false]; have := g2 k' b; simp only [addF] at this; omega
  · intro k1 k2 b hne
    by_cases e1 : k1 = k <;> by_cases e2 : k2 = k <;> simp only [e1, e2, if_true, if_false]
    · exact absurd (e1.trans e2.symm) hne
    · have q1 := g3 k k2 b (by rw [← e1]; exact hne); have q2 := g2 k2 b; have q3 := g2 k b; rw [hF] at q1 q3; simp only [addF] at q1 q2 q3 ⊢; omega
    · have q1 := g3 k1 k b (by rw [← e2]; exact hne); have q2 := g2 k1 b; have q3 := g2 k b; rw [hF] at q1 q3; simp only [addF] at q1 q2 q3 ⊢; omega
    · exact g3 k1 k2 b hne
  · intro b; have := g4 b; simp only [addF] at this; omega
  · intro k' b
    by_cases e : k' = k
    · subst e; simp only [if_true, addF]; intro hx
      rcases Nat.eq_zero_or_pos (F b) with h0 | h0
      · exact g5 k' b (by rw [hF]; omega)
      · exact g6 b (by simp only [addF]; omega)
    · simp only [e, if_false]; exact g5 k' b
  · intro b hx; exact g6 b (by simp only [addF]; omega)
  · intro k' hk'
    have : k' ≠ k := fun e => by subst e; have := lt_of_get hs; simp at hk'; omega
    simp only [this, if_false]
    exact g7 k' (by simpa using hk')
end Go.Proofs.Vai

namespace Go.Proofs.Vai
open Go

theorem apartPl_symm (p q : Pl) : apartPl p q = apartPl q p := by
  cases p with
  | none => cases q <;> rfl
  | some p =>
    cases q with
    | none => rfl
    | some q =>
      obtain ⟨k, j, st⟩ := p
      obtain ⟨k', j', st'⟩ := q
      simp only [apartPl]
      rw [show (k != k') = (k' != k) from by rw [bne_comm], show (j != j') = (j' != j) from by rw [bne_comm]]
      cases st <;> cases st' <;> simp only
      rename_i a b
      rw [show (a.1 != b.1) = (b.1 != a.1) from by rw [bne_comm], show (a.2 != b.2) = (b.2 != a.2) from by rw [bne_comm]]
theorem PlOK.set {c : Cx} {S : St} {a : Act} {w : World} {k j : Nat} {st : Option (Nat × Nat)} {s : Sl} (hs : S[k]? = some s) {q : Pl} {u : Value} (h : PlOK c S a w q u) {d : D} (hap : apartPl (some (k, j, st)) q = true) :
    PlOK c (S.set k (s.up0 (plSet s.c j st d))) a w q u := by
  cases q with
  | none => trivial
  | some q =>
    obtain ⟨k', j', st'⟩ := q
    obtain ⟨s', hs', hd, hv⟩ := h
    by_cases e : k = k'
    · subst e
      rw [hs] at hs'
      obtain rfl := Option.some.inj hs'
      refine ⟨_, List.getElem?_set_self (lt_of_get hs), ?_, ?_⟩
      · show plD (plSet s.c j st d) j' st' = _
        rw [plD_apart k hap]; exact hd
      · exact plV_set k (.inr hap) hd hv
    · exact ⟨s', by rw [List.getElem?_set_ne e]; exact hs', hd, hv⟩
theorem PlOK.world {c : Cx} {H F : Fp} {S : St} {a : Act} {w w' : World} (h : SR c (addF H F) S a w) (hf : ∀ b, b < w.heap.size → F b = 0 → w'.heap[b]? = w.heap[b]?) {q : Pl} {u : Value} (hq : PlOK c S a w q u) : PlOK c S a w' q u := by
  cases q with
  | none => trivial
  | some q =>
    obtain ⟨k, j, st⟩ := q
    obtain ⟨s, hs, hd, hv⟩ := hq
    obtain ⟨Fs, g1, g2, g3, g4, g5, g6, g7⟩ := h.slots
    exact ⟨s, hs, hd, plV_world (g1 k s hs) (fun b hb => hf b (g5 k b hb).1 (by have := g2 k b; simp only [addF] at this; omega)) j st u hv⟩
theorem ioD_ok {c : Cx} {H : Fp} {S S' : St} {a : Act} {w : World} (h : SR c H S a w) {d d' : D} {p : Pl} (hr : (ioD d).run S = some ((d', p), S')) {u : Value} {F : Fp} (ht : TRel c.I w (AR c S a w) d u F) (ho : own d = false) :
    ∃ F', SR c (addF H F') S' a w ∧ NRel c.I w d' u F' ∧ PlOK c S' a w p u ∧ (∀ e u, AR c S a w e u → AR c S' a w e u) ∧ ∀ q v, PlOK c S a w q v → apartPl p q = true → PlOK c S' a w q v := by
  have hz := notOwn_z ht ho
  subst hz
  have plain : ∀ {e : D} {S' : St}, outAl e = false → TRel c.I w (AR c S a w) e u zF → (Pg.ret (e, (none : Pl))).run S = some ((d', p), S') →
      ∃ F', SR c (addF H F') S' a w ∧ NRel c.I w d' u F' ∧ PlOK c S' a w p u ∧ (∀ e u, AR c S a w e u → AR c S' a w e u) ∧ ∀ q v, PlOK c S a w q v → apartPl p q = true → PlOK c S' a w q v := by
    intro e S' hp ht hr
    obtain ⟨h1, rfl⟩ := Prod.mk.inj (Pg.ret_some hr)
    obtain ⟨rfl, rfl⟩ := Prod.mk.inj h1
    exact ⟨zF, by rw [addF_z]; exact h, (TRel_plain hp).1 ht, trivial, fun _ _ h => h, fun _ _ h _ => h⟩
  cases d with
  | i k n => exact plain rfl ht hr
  | b t => exact plain rfl ht hr
  | s x => exact plain rfl ht hr
  | nilp => exact plain rfl ht hr
  | al k j st n =>
    obtain ⟨e, S1, h1, h2⟩ := Pg.bind_some hr
    obtain ⟨rfl, ho', s, hs, hn, hp⟩ := lookAl_ok h1
    obtain ⟨s', hs', h2⟩ := Pg.rd_some h2
    rw [hs] at hs'
    obtain rfl := Option.some.inj hs'
    obtain ⟨_, h2⟩ := Pg.wr_some h2
    obtain ⟨h3, rfl⟩ := Prod.mk.inj (Pg.ret_some h2)
    obtain ⟨rfl, rfl⟩ := Prod.mk.inj h3
    have ha := ht.2
    obtain ⟨F', v, hv, hn', hsr, hnext⟩ := h.take hs hp ho'
    rw [ha.hdr hs hn] at hv
    obtain rfl := Option.some.inj hv
    refine ⟨F', hsr, hn', ⟨_, List.getElem?_set_self (lt_of_get hs), plD_self hp, plV_set k (.inl rfl) hp (ha.hdr hs hn)⟩, hnext, fun q v hq hap => hq.set hs hap⟩
  | _ => exact (Pg.fail_some hr).elim
theorem ioDs_ok {c : Cx} {a : Act} {w : World} {n : Nat} {g : Nat → Option Value} : ∀ {ds ds' : List D} {ps : List Pl} {j : Nat} {H : Fp} {S S' : St} {o : Nat} {F : Fp}, SR c H S a w → (ioDs n j ds).run S = some ((ds', ps), S') → TCRel c.I w (AR c S a w) g ds o F →
    (∀ i d u, ds[i]? = some d → own d = true → g (o + i) = some u → PlOK c S a w (some (n, j + i, none)) u) → apartAll ps = true →
    ∃ F', SR c (addF H F') S' a w ∧ CRel c.I w g ds' o (addF F F') ∧ ds'.length = ds.length ∧ ps.length = ds.length ∧ (∀ i p u, ps[i]? = some p → g (o + i) = some u → PlOK c S' a w p u) ∧
      (∀ e u, AR c S a w e u → AR c S' a w e u) ∧ ∀ q v, PlOK c S a w q v → ps.all (fun p => apartPl p q) = true → PlOK c S' a w q v
  | [], ds', ps, j, H, S, S', o, F, h, hr, ht, hp, hap => by
    obtain ⟨h1, rfl⟩ := Prod.mk.inj (Pg.ret_some hr)
    obtain ⟨rfl, rfl⟩ := Prod.mk.inj h1
    exact ⟨zF, by rw [addF_z]; exact h, by rw [addF_z]; simpa only [CRel, TCRel] using ht, rfl, rfl, fun i p u hi _ => by simp at hi, fun _ _ h => h, fun _ _ h _ => h⟩
  | d :: ds, ds', ps, j, H, S, S', o, F, h, hr, ht, hp, hap => by
    obtain ⟨x, F1, F2, hx, t1, t2, rfl⟩ := ht
    obtain ⟨p, S1, h1, h2⟩ := Pg.bind_some hr
    obtain ⟨q, S2, h3, h4⟩ := Pg.bind_some h2
    obtain ⟨h5, rfl⟩ := Prod.mk.inj (Pg.ret_some h4)
    obtain ⟨rfl, rfl⟩ := Prod.mk.inj h5
    obtain ⟨p1, p2⟩ := p
    obtain ⟨q1, q2⟩ := q
    simp only [apartAll, Bool.and_eq_true] at hap
    obtain ⟨G1, sr1, n1, ok1, m1, k1⟩ : ∃ F', SR c (addF H F') S1 a w ∧ NRel c.I w p1 x (addF F1 F') ∧ PlOK c S1 a w p2 x ∧ (∀ e u, AR c S a w e u → AR c S1 a w e u) ∧ ∀ q v, PlOK c S a w q v → apartPl p2 q = true → PlOK c S1 a w q v := by
      by_cases ho : own d = true
      · rw [if_pos ho] at h1
        obtain ⟨h6, rfl⟩ := Prod.mk.inj (Pg.ret_some h1)
        obtain ⟨rfl, rfl⟩ := Prod.mk.inj h6
        exact ⟨zF, by rw [addF_z]; exact h, by rw [addF_z]; exact (TRel_plain (own_plain ho)).1 t1, hp 0 _ x rfl ho (by simpa using hx), fun _ _ h => h, fun _ _ h _ => h⟩
      · rw [if_neg ho] at h1
        have ho : own d = false := by simpa using ho
        obtain ⟨F', e1, e2, e3, e4, e5⟩ := ioD_ok h h1 t1 ho
        exact ⟨F', e1, by rw [notOwn_z t1 ho, z_addF]; exact e2, e3, e4, e5⟩
    have hp' : ∀ i e u, ds[i]? = some e → own e = true → g (o + 1 + i) = some u → PlOK c S1 a w (some (n, j + 1 + i, none)) u := by
      intro i e u hi ho hu
      have := hp (i + 1) e u (by simpa using hi) ho (by rw [show o + (i + 1) = o + 1 + i from by omega]; exact hu)
      rw [show j + (i + 1) = j + 1 + i from by omega] at this
      refine k1 _ _ this ?_
      -- the head's place and this one are apart
      have hall := List.all_eq_true.1 hap.1
      have hin : (some (n, j + 1 + i, none) : Pl) ∈ q2 := by
        have key : ∀ {ds ds' : List D} {ps : List Pl} {j : Nat} {S S' : St}, (ioDs n j ds).run S = some ((ds', ps), S') → ∀ i e, ds[i]? = some e → own e = true → (some (n, j + i, none) : Pl) ∈ ps := by
          intro ds
          induction ds with
          | nil => intro ds' ps j S S' hr i e hi; simp at hi
          | cons d ds ih =>
            intro ds' ps j S S' hr i e hi ho
            obtain ⟨p, S1, h1, h2⟩ := Pg.bind_some hr
            obtain ⟨q, S2, h3, h4⟩ := Pg.bind_some h2
            obtain ⟨h5, rfl⟩ := Prod.mk.inj (Pg.ret_some h4)
            obtain ⟨rfl, rfl⟩ := Prod.mk.inj h5
            cases i with
            | zero =>
              simp at hi
              subst hi
              rw [if_pos ho] at h1
              obtain ⟨h6, _⟩ := Prod.mk.inj (Pg.ret_some h1)
              subst h6
              simp
            | succ i =>
              have := ih h3 i e (by simpa using hi) ho
              rw [show j + 1 + i = j + (i + 1) from by omega] at this
              exact List.mem_cons_of_mem _ this
        exact key h3 i e hi ho
      exact hall _ hin
    obtain ⟨G2, sr2, n2, l2, l3, ok2, m2, k2⟩ := ioDs_ok sr1 h3 (t2.mono (fun _ _ _ h _ => h) m1) hp' hap.2
    refine ⟨addF G1 G2, by rw [← addF_assoc]; exact sr2, ?_, by simp [l2], by simp [l3], ?_, fun e u h => m2 e u (m1 e u h), ?_⟩
    · simp only [CRel]
      exact ⟨x, addF F1 G1, addF F2 G2, hx, n1, n2, by funext z; simp only [addF]; omega⟩
    · intro i p u hi hu
      cases i with
      | zero =>
        simp at hi
        subst hi
        rw [Nat.add_zero, hx] at hu
        obtain rfl := Option.some.inj hu
        refine k2 _ _ ok1 ?_
        rw [List.all_eq_true]
        intro p hp
        rw [apartPl_symm]
        exact List.all_eq_true.1 hap.1 p hp
      | succ i => exact ok2 i p u (by simpa using hi) (by rw [show o + 1 + i = o + (i + 1) from by omega]; exact hu)
    · intro q v hq hall
      simp only [List.all_cons, Bool.and_eq_true] at hall
      exact k2 q v (k1 q v hq hall.1) hall.2
theorem isDead_iff {o : Option D} (h : isDead o = true) : o = some .dead := by
  unfold isDead at h
  split at h
  · rfl
  · simp at h
theorem ioBackL_ok {c : Cx} {a : Act} {w : World} {g : Nat → Option Value} : ∀ {ds : List D} {ps : List Pl} {H F : Fp} {S S' : St} {o : Nat}, SR c (addF H F) S a w → CRel c.I w g ds o F → (∀ i p u, ps[i]? = some p → g (o + i) = some u → PlOK c S a w p u) → apartAll ps = true →
    (ioBackL ds ps).run S = some ((), S') → SR c H S' a w
  | [], [], H, F, S, S', o, h, hc, hp, hap, hr => by
    obtain ⟨_, rfl⟩ := Prod.mk.inj (Pg.ret_some hr)
    exact h.drop
  | [], p :: ps, H, F, S, S', o, h, hc, hp, hap, hr => (Pg.fail_some hr).elim
  | d :: ds, [], H, F, S, S', o, h, hc, hp, hap, hr => (Pg.fail_some hr).elim
  | d :: ds, p :: ps, H, F, S, S', o, h, hc, hp, hap, hr => by
    simp only [CRel] at hc
    obtain ⟨x, F1, F2, hx, h1, h2, rfl⟩ := hc
    obtain ⟨_, S1, h3, h4⟩ := Pg.bind_some hr
    simp only [apartAll, Bool.and_eq_true] at hap
    have h' : SR c (addF (addF H F2) F1) S a w := by
      rw [show addF (addF H F2) F1 = addF H (addF F1 F2) from by funext z; simp only [addF]; omega]; exact h
    have hp0 := hp 0 p x rfl (by simpa using hx)
    cases p with
    | none =>
      obtain ⟨_, rfl⟩ := Prod.mk.inj (Pg.ret_some h3)
      exact ioBackL_ok (o := o + 1) h'.drop h2 (fun i p u hi hu => hp (i + 1) p u (by simpa using hi) (by rw [show o + (i + 1) = o + 1 + i from by omega]; exact hu)) hap.2 h4
    | some p =>
      obtain ⟨k, j, st⟩ := p
      obtain ⟨s, hs, h3⟩ := Pg.rd_some h3
      obtain ⟨hcond, h3⟩ := Pg.ite_some h3
      obtain ⟨_, h3⟩ := Pg.wr_some h3
      obtain ⟨_, rfl⟩ := Prod.mk.inj (Pg.ret_some h3)
      simp only [Bool.and_eq_true, Bool.not_eq_true'] at hcond
      refine ioBackL_ok (o := o + 1) (h'.back hp0 hs hcond.2 h1) h2 (fun i p u hi hu => ?_) hap.2 h4
      have := hp (i + 1) p u (by simpa using hi) (by rw [show o + (i + 1) = o + 1 + i from by omega]; exact hu)
      exact this.set hs (List.all_eq_true.1 hap.1 p (List.mem_of_getElem? hi))
/-- An operand is lent, and comes back. -/
theorem ioTake_ok {c : Cx} {H : Fp} {S S1 : St} {a : Act} {w : World} (h : SR c H S a w) {x : X} {v : V} {ps : List Pl} (hr : (ioTake x).run S = some ((v, ps), S1)) {u : Value} (hx : XV c a x u) :
    ∃ F, SR c (addF H F) S1 a w ∧ VN c.I w v u F ∧
      ∀ (w' : World) (v' : V) (H' F' : Fp) (S2 : St), (∀ b, b < w.heap.size → F b = 0 → w'.heap[b]? = w.heap[b]?) → SR c (addF H' F') S1 a w' → VN c.I w' v' u F' → (ioBack v v' ps).run S1 = some ((), S2) → SR c H' S2 a w' := by
  cases x with
  | c y => exact (Pg.fail_some hr).elim
  | t n =>
    obtain ⟨s, hs, hr⟩ := Pg.rd_some hr
    obtain ⟨Fs, g1, _⟩ := h.slots
    have hv := g1 n s hs
    rw [show u = valOf c a n from hx]
    have boxed : ∀ {k : Nat} {s : Sl} {ds : List D} {u : Value}, S[k]? = some s → s.c = .box ds → u = valOf c a k → v = .box ds → ps = [some (k, 0, none)] → S1 = S.set k (s.up2 (.leaf .dead)) →
        ∃ F, SR c (addF H F) S1 a w ∧ VN c.I w v u F ∧
          ∀ (w' : World) (v' : V) (H' F' : Fp) (S2 : St), (∀ b, b < w.heap.size → F b = 0 → w'.heap[b]? = w.heap[b]?) → SR c (addF H' F') S1 a w' → VN c.I w' v' u F' → (ioBack v v' ps).run S1 = some ((), S2) → SR c H' S2 a w' := by
      rintro k s ds u hs hc rfl rfl rfl rfl
      obtain ⟨F, h1, h2⟩ := h.give hs
      rw [hc] at h1
      refine ⟨F, h2, h1, fun w' v' H' F' S2 hf hsr hvn hrb => ?_⟩
      cases v' with
      | leaf d => exact (Pg.fail_some hrb).elim
      | agg d => exact (Pg.fail_some hrb).elim
      | box ds' =>
        simp only [ioBack] at hrb
        obtain ⟨s', hs', hrb⟩ := Pg.rd_some hrb
        obtain ⟨_, hrb⟩ := Pg.wr_some hrb
        obtain ⟨_, rfl⟩ := Prod.mk.inj (Pg.ret_some hrb)
        exact hsr.reset hs' hvn
    cases hc : s.c with
    | leaf d =>
      simp only [hc] at hr
      by_cases ho : own d = true
      · rw [if_pos ho] at hr
        obtain ⟨_, hr⟩ := Pg.wr_some hr
        obtain ⟨h1, rfl⟩ := Prod.mk.inj (Pg.ret_some hr)
        obtain ⟨rfl, rfl⟩ := Prod.mk.inj h1
        obtain ⟨F, v', h1, h2, h3, h4⟩ := h.take hs (j := 0) (st := none) (d := d) (by rw [hc]; rfl) ho
        rw [hc] at h1 h3 h4
        simp [plV, cellOf] at h1
        subst h1
        refine ⟨F, h3, h2, fun w' v' H' F' S2 hf hsr hvn hrb => ?_⟩
        have hok : PlOK c (S.set n (s.up0 (.leaf .dead))) a w (some (n, 0, none)) (valOf c a n) := ⟨_, List.getElem?_set_self (lt_of_get hs), rfl, by simp [plV, cellOf, Sl.up0]⟩
        have hok' := hok.world h3 hf
        cases v' with
        | leaf d' =>
          simp only [ioBack] at hrb
          refine ioBackL_ok (g := fun k => if k = 0 then some (valOf c a n) else none) (o := 0) (ds := [d']) (F := F') hsr ?_ ?_ rfl hrb
          · simp only [CRel]; exact ⟨_, F', zF, rfl, hvn, rfl, (addF_z _).symm⟩
          · intro i p u hi hu
            cases i with
            | zero => simp at hi hu; subst hi hu; exact hok'
            | succ i => simp at hi
        | agg ds' => exact (Pg.fail_some hrb).elim
        | box ds' => exact (Pg.fail_some hrb).elim
      · rw [if_neg ho] at hr
        rw [hc] at hv
        split at hr
        · rename_i k m
          obtain ⟨s', hs', hr⟩ := Pg.rd_some hr
          obtain ⟨hm, hr⟩ := Pg.ite_some hr
          cases hc' : s'.c with
          | leaf _ => simp only [hc'] at hr; exact (Pg.fail_some hr).elim
          | agg _ => simp only [hc'] at hr; exact (Pg.fail_some hr).elim
          | box ds =>
            simp only [hc'] at hr
            obtain ⟨_, hr⟩ := Pg.wr_some hr
            obtain ⟨h1, rfl⟩ := Prod.mk.inj (Pg.ret_some hr)
            obtain ⟨rfl, rfl⟩ := Prod.mk.inj h1
            obtain ⟨_, s'', hs'', _, ha⟩ := hv
            rw [hs'] at hs''
            obtain rfl := Option.some.inj hs''
            obtain ⟨ds', b, _, h2, h3⟩ := ha hm
            exact boxed hs' hc' (h3.trans h2.symm) rfl rfl rfl
        · obtain ⟨p, S2, h1, h2⟩ := Pg.bind_some hr
          obtain ⟨h3, rfl⟩ := Prod.mk.inj (Pg.ret_some h2)
          obtain ⟨rfl, rfl⟩ := Prod.mk.inj h3
          obtain ⟨p1, p2⟩ := p
          obtain ⟨F, e1, e2, e3, e4, e5⟩ := ioD_ok h h1 hv (by simpa using ho)
          refine ⟨F, e1, e2, fun w' v' H' F' S3 hf hsr hvn hrb => ?_⟩
          have hok' := e3.world e1 hf
          cases v' with
          | leaf d' =>
            simp only [ioBack] at hrb
            refine ioBackL_ok (g := fun k => if k = 0 then some (valOf c a n) else none) (o := 0) (ds := [d']) (F := F') hsr ?_ ?_ rfl hrb
            · simp only [CRel]; exact ⟨_, F', zF, rfl, hvn, rfl, (addF_z _).symm⟩
            · intro i p u hi hu
              cases i with
              | zero => simp at hi hu; subst hi hu; exact hok'
              | succ i => simp at hi
          | agg ds' => exact (Pg.fail_some hrb).elim
          | box ds' => exact (Pg.fail_some hrb).elim
    | agg ds =>
      simp only [hc] at hr
      obtain ⟨_, hr⟩ := Pg.wr_some hr
      obtain ⟨p, S2, h1, h2⟩ := Pg.bind_some hr
      obtain ⟨hap, h2⟩ := Pg.ite_some h2
      obtain ⟨h3, rfl⟩ := Prod.mk.inj (Pg.ret_some h2)
      obtain ⟨rfl, rfl⟩ := Prod.mk.inj h3
      obtain ⟨p1, p2⟩ := p
      obtain ⟨F, cs, hval, hl, ht, hsr0, hm⟩ := h.takeAll hs hc
      obtain ⟨F', e1, e2, e3, e4, e5, e6, e7⟩ := ioDs_ok hsr0 h1 (ht.mono (fun _ _ _ h _ => h) hm) (by
        intro i d u hi ho hu
        refine ⟨_, List.getElem?_set_self (lt_of_get hs), ?_, ?_⟩
        · simp [plD, Sl.up0, V.cells, hi, killOwn, ho]
        · simp only [plV, Sl.up0, cellOf, hval, Nat.zero_add] at hu ⊢; simp [hu]) hap
      refine ⟨addF F F', by rw [← addF_assoc]; exact e1, ⟨cs, hval, by rw [e3]; exact hl, e2⟩, fun w' v' H' G S3 hf hsr hvn hrb => ?_⟩
      have e1' := e1
      rw [addF_assoc] at e1'
      cases v' with
      | leaf d' => exact (Pg.fail_some hrb).elim
      | agg ds' =>
        simp only [ioBack] at hrb
        obtain ⟨cs', hval', hl', hcr⟩ := hvn
        rw [hval] at hval'
        obtain rfl : cs = cs' := by simpa using hval'
        exact ioBackL_ok (o := 0) hsr hcr (fun i p u hi hu => (e5 i p u hi hu).world e1' hf) hap hrb
      | box ds' => exact (Pg.fail_some hrb).elim
    | box ds =>
      simp only [hc] at hr
      obtain ⟨_, hr⟩ := Pg.wr_some hr
      obtain ⟨h1, rfl⟩ := Prod.mk.inj (Pg.ret_some hr)
      obtain ⟨rfl, rfl⟩ := Prod.mk.inj h1
      exact boxed hs hc rfl rfl rfl rfl
end Go.Proofs.Vai

namespace Go.Proofs.Vai
open Go

/-- Values in a row, none with an alias. -/
def VsN (I : Nat → Prop) (w : World) (g : Nat → Option Value) : List V → Nat → Fp → Prop
  | [], _, F => F = zF
  | v :: vs, o, F => ∃ x F1 F2, g o = some x ∧ VN I w v x F1 ∧ VsN I w g vs (o + 1) F2 ∧ F = addF F1 F2
def ResRel (I : Nat → Prop) (w : World) (rs : List V) (v : Value) (F : Fp) : Prop :=
  match rs with
  | [r] => VN I w r v F
  | rs => ∃ vs, v = .tuple vs ∧ rs.length ≤ vs.size ∧ VsN I w (fun k => vs[k]?) rs 0 F
def Callable (P : Program) (f : Nat) : Prop := ∃ fn, P.funcs[f]? = some fn ∧ (fn.name == "runtime.NumGoroutine") = false ∧ fn.body.isNone = false
def IoPost (I : Nat → Prop) (w' : World) (vals : Array Value) (io : Option Nat) (ios : List V) (FI : Fp) : Prop :=
  match io, ios with
  | none, [] => FI = zF
  | some j, [V] => ∃ vj, vals[j]? = some vj ∧ VN I w' V vj FI
  | _, _ => False
/-- What a call does. -/
def CallSpec (P : Program) (f : Nat) (io : Option Nat) (args : List V) (rs ios : List V) : Prop :=
  ∀ (I : Nat → Prop) (w : World) (vals : Array Value) (Fio : Fp), vals.size = args.length →
    (∀ j V v, args[j]? = some V → vals[j]? = some v → VN I w V v (if io = some j then Fio else zF)) →
    (∀ b, I b → b < w.heap.size ∧ Fio b = 0) → (∀ b, Fio b ≤ 1) → (∀ b, 0 < Fio b → b < w.heap.size) → ((∀ j, io = some j → j < args.length) ∧ (io = none → Fio = zF)) →
    Calls P f vals w fun e w' => ∃ v FR FI, e = .returned v ∧ w'.os = w.os ∧ w'.tape = w.tape ∧ w'.output = w.output ∧ w.heap.size ≤ w'.heap.size ∧
      (∀ b, b < w.heap.size → Fio b = 0 → w'.heap[b]? = w.heap[b]?) ∧ ResRel I w' rs v FR ∧
      IoPost I w' vals io ios FI ∧ (∀ b, FR b + FI b ≤ 1) ∧ ∀ b, 0 < FR b ∨ 0 < FI b → b < w'.heap.size ∧ (b < w.heap.size → 0 < Fio b)
def EOK (P : Program) (io : Nat → Option Nat) (E : CallF) : Prop :=
  ∀ f args rs ios, E f args = some (rs, ios) → (Callable P f ∧ CallSpec P f (io f) args rs ios) ∧ (ios = [] → io f = none)
theorem run_callFunc {P : Program} {f : Nat} {args : Array Value} {w : World} (h : Callable P f) : (callFunc f args).run P w = .ok (.enter f args) w := by
  obtain ⟨fn, h1, h2, h3⟩ := h
  simp only [callFunc, Sem.run_bind, run_program, Result.andThen_ok, h1, h2, h3, Bool.false_eq_true, if_false, Sem.run_pure]

/-! ### Results are put -/
theorem VsN.pieces {I : Nat → Prop} {w : World} {g : Nat → Option Value} : ∀ {vs : List V} {o : Nat} {F : Fp}, VsN I w g vs o F →
    ∃ G : Nat → Fp, (∀ i v, vs[i]? = some v → ∃ x, g (o + i) = some x ∧ VN I w v x (G i)) ∧ (∀ i b, i < vs.length → G i b ≤ F b) ∧ ∀ i i' b, i < vs.length → i' < vs.length → i ≠ i' → G i b + G i' b ≤ F b
  | [], o, F, h => ⟨fun _ => zF, fun i v hi => by simp at hi, fun i b hi => by simp at hi, fun i i' b hi => by simp at hi⟩
  | v :: vs, o, F, h => by
    obtain ⟨x, F1, F2, hx, h1, h2, rfl⟩ := h
    obtain ⟨G, g1, g2, g3⟩ := VsN.pieces h2
    refine ⟨fun i => match i with | 0 => F1 | i + 1 => G i, ?_, ?_, ?_⟩
    · intro i v' hi
      cases i with
      | zero => simp at hi; subst hi; exact ⟨x, hx, h1⟩
      | succ i =>
        obtain ⟨y, hy, hn⟩ := g1 i v' (by simpa using hi)
        exact ⟨y, by rw [show o + (i + 1) = o + 1 + i from by omega]; exact hy, hn⟩
    · intro i b hi
      cases i with
      | zero => simp only [addF]; omega
      | succ i => have := g2 i b (by simpa using hi); simp only [addF]; omega
    · intro i i' b hi hi' hne
      cases i with
      | zero =>
        cases i' with
        | zero => omega
        | succ i' => have := g2 i' b (by simpa using hi'); simp only [addF]; omega
      | succ i =>
        cases i' with
        | zero => have := g2 i b (by simpa using hi); simp only [addF]; omega
        | succ i' => have := g3 i i' b (by simpa using hi) (by simpa using hi') (by omega); simp only [addF]; omega
theorem putVs_get : ∀ {ks : List Nat} {vs : List V} {S S' : St} {u : Unit}, (putVs ks vs).run S = some (u, S') → ks.Nodup → ks.length = vs.length ∧ S'.length = S.length ∧ (∀ k, k ∉ ks → S'[k]? = S[k]?) ∧
    ∀ (i k : Nat) (v : V), ks[i]? = some k → vs[i]? = some v → ∃ s : Sl, S[k]? = some s ∧ S'[k]? = some (s.up2 v)
  | [], [], S, S', u, hr, hn => by
    obtain ⟨_, rfl⟩ := Prod.mk.inj (Pg.ret_some hr)
    exact ⟨rfl, rfl, fun _ _ => rfl, fun i k v hi => by simp at hi⟩
  | [], v :: vs, S, S', u, hr, hn => (Pg.fail_some hr).elim
  | k :: ks, [], S, S', u, hr, hn => (Pg.fail_some hr).elim
  | k :: ks, v :: vs, S, S', u, hr, hn => by
    obtain ⟨_, S1, h1, h2⟩ := Pg.bind_some hr
    obtain ⟨s, hs, rfl⟩ := putS_ok h1
    rw [List.nodup_cons] at hn
    obtain ⟨e1, e2, e3, e4⟩ := putVs_get h2 hn.2
    refine ⟨by simp [e1], by simpa using e2, fun k' hk' => ?_, fun i k' v' hi hv => ?_⟩
    · simp only [List.mem_cons, not_or] at hk'
      rw [e3 k' hk'.2, List.getElem?_set_ne (Ne.symm hk'.1)]
    · cases i with
      | zero =>
        simp at hi hv
        subst hi hv
        exact ⟨s, hs, by rw [e3 _ hn.1, List.getElem?_set_self (lt_of_get hs)]⟩
      | succ i =>
        have hi' : ks[i]? = some k' := by simpa using hi
        obtain ⟨s', hs', h⟩ := e4 i k' v' hi' (by simpa using hv)
        have hne : k ≠ k' := fun e => hn.1 (e ▸ List.mem_of_getElem? hi')
        rw [List.getElem?_set_ne hne] at hs'
        exact ⟨s', hs', h⟩
/-- The slots of a tuple's components. -/
def TupOk (c : Cx) (t : Nat) (vs : List Nat) : Prop :=
  vs.length ≠ 1 ∧ t < c.n ∧ (∀ p ∈ c.pins, p.1 ≠ t) ∧ (∀ i k, vs[i]? = some k → c.n ≤ k ∧ c.nv[k - c.n]? = some (t, i)) ∧ ∀ k i, c.nv[k]? = some (t, i) → vs[i]? = some (c.n + k)
def dstOkR (c : Cx) (dst : Option Nat) (vs : List Nat) (rs : List V) : Prop :=
  match dst, vs, rs with
  | none, [], _ => True
  | some d, [], [_] => c.real d
  | some d, vs, _ => TupOk c d vs
  | none, _, _ => True
theorem putR_ok {c : Cx} {H F : Fp} {S S' : St} {a : Act} {w : World} (h : SR c (addF H F) S a w) {dst : Option Nat} {vs : List Nat} {rs : List V} {v : Value} (hv : ResRel c.I w rs v F) (hd : dstOkR c dst vs rs) {u : Unit} (hr : (putR dst vs rs).run S = some (u, S')) : SR c H S' (a.put dst v) w := by
  unfold putR at hr
  split at hr
  · exact h.putO (dst := some _) hd hr hv.rel
  · rename_i d hne
    obtain ⟨_, S1, h1, h2⟩ := Pg.bind_some hr
    obtain ⟨s, hs, rfl⟩ := putS_ok h1
    have htup : TupOk c d vs := by
      unfold dstOkR at hd
      split at hd
      · rename_i heq; cases heq
      · exact absurd rfl (hne _ rfl)
      · rename_i heq _; obtain rfl := Option.some.inj heq; exact hd
      · rename_i heq _; cases heq
    obtain ⟨t0, t1, t2, t3, t4⟩ := htup
    have hnd : vs.Nodup := by
      rw [List.nodup_iff_pairwise_ne, List.pairwise_iff_getElem]
      intro i j hi hj hij e
      have a1 := (t3 i _ (List.getElem?_eq_getElem hi)).2
      have a2 := (t3 j _ (List.getElem?_eq_getElem hj)).2
      rw [e, a2] at a1
      simp at a1; omega
    obtain ⟨e1, e2, e3, e4⟩ := putVs_get h2 hnd
    have hres : ∃ ws, v = .tuple ws ∧ rs.length ≤ ws.size ∧ VsN c.I w (fun k => ws[k]?) rs 0 F := by
      unfold ResRel at hv
      split at hv
      · rename_i r; exact absurd (by simpa using e1) t0
      · exact hv
    obtain ⟨ws, rfl, hw, hn⟩ := hres
    obtain ⟨G, g1, g2, g3⟩ := hn.pieces
    have hidx : ∀ k, k ∈ vs → ∃ i : Nat, vs[i]? = some k := fun k hk => by obtain ⟨i, hi, rfl⟩ := List.getElem_of_mem hk; exact ⟨i, List.getElem?_eq_getElem hi⟩
    have hge : ∀ k, k ∈ vs → c.n ≤ k := fun k hk => by obtain ⟨i, hi⟩ := hidx k hk; exact (t3 i k hi).1
    have hdn : d ∉ vs := fun hk => by have := hge d hk; omega
    have hsz : d < a.tmps.size := by rw [h.size]; exact t1
    classical
    have hval : ∀ k, k ≠ d → k ∉ vs → valOf c (a.put (some d) (.tuple ws)) k = valOf c a k := by
      intro k hk hkv
      unfold valOf
      by_cases hlt : k < c.n
      · simp only [hlt, if_true]; rw [getD_put hsz, if_neg hk]
      · simp only [hlt, if_false]
        cases hnv : c.nv[k - c.n]? with
        | none => rfl
        | some p =>
          obtain ⟨t, i⟩ := p
          simp only
          rw [getD_put hsz]
          by_cases e : t = d
          · subst e
            have := t4 (k - c.n) i hnv
            rw [show c.n + (k - c.n) = k from by omega] at this
            exact absurd (List.mem_of_getElem? this) hkv
          · rw [if_neg e]
    have hvalc : ∀ i k, vs[i]? = some k → valOf c (a.put (some d) (.tuple ws)) k = ws.getD i undef := by
      intro i k hi
      obtain ⟨q1, q2⟩ := t3 i k hi
      unfold valOf
      rw [if_neg (by omega), q2]
      simp only
      rw [getD_put hsz, if_pos rfl]
    refine h.setU (fun k => k = d ∨ k ∈ vs) (fun k => if h : ∃ i : Nat, vs[i]? = some k then G h.choose else zF) (by simpa using e2) h.defers (by simp [Act.put, h.size]) ?_ ?_ ?_ ?_ ?_ ?_ ?_
    · intro p hp
      rw [getD_put hsz, if_neg (t2 p hp)]; exact h.pins p hp
    · intro k hk
      simp only [not_or] at hk
      exact ⟨by rw [e3 k hk.2, List.getElem?_set_ne (Ne.symm hk.1)], hval k hk.1 hk.2⟩
    · intro k hk
      rcases hk with rfl | hk
      · exact lt_of_get hs
      · obtain ⟨i, hi⟩ := hidx k hk
        have := lt_of_get (t3 i k hi).2
        rw [h.len]; have := (t3 i k hi).1; omega
    · intro k s' hk hs'
      rcases hk with rfl | hk
      · rw [hs] at hs'
        obtain rfl := Option.some.inj hs'
        refine ⟨_, by rw [e3 k hdn, List.getElem?_set_self (lt_of_get hs)], by simp [Sl.up2], by simp [Sl.up2], by simp [Sl.up2], ?_⟩
        rw [dif_neg (fun ⟨i, hi⟩ => hdn (List.mem_of_getElem? hi))]
        have hz : NRel c.I w .dead (valOf c (a.put (some k) (.tuple ws)) k) zF := by simp only [NRel]
        exact (TRel_of_N hz : TRel c.I w (AR c S a w) .dead _ zF)
      · have hne : d ≠ k := fun e => hdn (e ▸ hk)
        have hex : ∃ i : Nat, vs[i]? = some k := hidx k hk
        have hi := hex.choose_spec
        have hil := lt_of_get hi
        obtain ⟨r, hr⟩ : ∃ r, rs[hex.choose]? = some r := ⟨rs[hex.choose]'(by omega), by simp⟩
        obtain ⟨s2, q1, q2⟩ := e4 _ k r hi hr
        rw [List.getElem?_set_ne hne, hs'] at q1
        obtain rfl := Option.some.inj q1
        refine ⟨_, q2, by simp [Sl.up2], by simp [Sl.up2], by simp [Sl.up2], ?_⟩
        rw [dif_pos hex, hvalc _ k hi]
        obtain ⟨x, hx, hn⟩ := g1 _ r hr
        simp only [Nat.zero_add] at hx
        rw [Array.getD_eq_getD_getElem?, hx]
        exact hn.rel
    · intro k b hk
      by_cases hex : ∃ i : Nat, vs[i]? = some k
      · rw [dif_pos hex]
        have := g2 hex.choose b (by have := lt_of_get hex.choose_spec; omega)
        simp only [addF]; omega
      · rw [dif_neg hex]; simp only [addF, zF]; omega
    · intro k k' b hk hk' hne
      by_cases hex : ∃ i : Nat, vs[i]? = some k <;> by_cases hex' : ∃ i : Nat, vs[i]? = some k'
      · rw [dif_pos hex, dif_pos hex']
        have := g3 hex.choose hex'.choose b (by have := lt_of_get hex.choose_spec; omega) (by have := lt_of_get hex'.choose_spec; omega) (fun e => by
          have q1 := hex.choose_spec
          rw [e, hex'.choose_spec] at q1
          exact hne (Option.some.inj q1).symm)
        simp only [addF]; omega
      · rw [dif_pos hex, dif_neg hex']
        have := g2 hex.choose b (by have := lt_of_get hex.choose_spec; omega)
        simp only [addF, zF]; omega
      · rw [dif_neg hex, dif_pos hex']
        have := g2 hex'.choose b (by have := lt_of_get hex'.choose_spec; omega)
        simp only [addF, zF]; omega
      · rw [dif_neg hex, dif_neg hex']; simp only [addF, zF]; omega
    · intro b; simp only [addF]; omega
  · obtain ⟨_, rfl⟩ := Prod.mk.inj (Pg.ret_some hr)
    exact h.drop
  · exact (Pg.fail_some hr).elim

/-! ### Calls -/
def XVs (c : Cx) (a : Act) (xs : List X) (vals : Array Value) : Prop := vals.size = xs.length ∧ ∀ (j : Nat) (x : X), xs[j]? = some x → ∃ v, vals[j]? = some v ∧ XV c a x v
theorem viewVs_ok {c : Cx} {H : Fp} {a : Act} {w : World} {io : Option Nat} {vio : V} : ∀ {xs : List X} {j0 : Nat} {S S' : St} {args : List V} {f : Bool}, SR c H S a w → (viewVs io vio j0 xs).run S = some ((args, f), S') → (∀ x, x ∈ xs → ∃ v, XV c a x v) →
    S' = S ∧ args.length = xs.length ∧ ∀ I', Vw c S a w I' f → ∀ (j : Nat) (x : X) (V : V) (u : Value), xs[j]? = some x → args[j]? = some V → XV c a x u → (io = some (j0 + j) → V = vio) ∧ (io ≠ some (j0 + j) → VN I' w V u zF)
  | [], j0, S, S', args, f, h, hr, hx => by
    obtain ⟨h1, rfl⟩ := Prod.mk.inj (Pg.ret_some hr)
    obtain ⟨rfl, rfl⟩ := Prod.mk.inj h1
    exact ⟨rfl, rfl, fun I' _ j x V u hj => by simp at hj⟩
  | x :: xs, j0, S, S', args, f, h, hr, hx => by
    obtain ⟨p, S1, h1, h2⟩ := Pg.bind_some hr
    obtain ⟨q, S2, h3, h4⟩ := Pg.bind_some h2
    obtain ⟨h5, rfl⟩ := Prod.mk.inj (Pg.ret_some h4)
    obtain ⟨rfl, rfl⟩ := Prod.mk.inj h5
    obtain ⟨p1, p2⟩ := p
    obtain ⟨q1, q2⟩ := q
    obtain ⟨v0, hv0⟩ := hx x List.mem_cons_self
    have hhead : S1 = S ∧ ∀ I', Vw c S a w I' p2 → ∀ u, XV c a x u → (io = some j0 → p1 = vio) ∧ (io ≠ some j0 → VN I' w p1 u zF) := by
      by_cases e : io = some j0
      · rw [if_pos e] at h1
        obtain ⟨h6, rfl⟩ := Prod.mk.inj (Pg.ret_some h1)
        obtain ⟨rfl, rfl⟩ := Prod.mk.inj h6
        exact ⟨rfl, fun I' _ u _ => ⟨fun _ => rfl, fun h => absurd e h⟩⟩
      · rw [if_neg e] at h1
        obtain ⟨rfl, _⟩ := viewV_ok h h1 hv0
        exact ⟨rfl, fun I' hv u hu => ⟨fun h => absurd h e, fun _ => (viewV_ok h h1 hu).2 I' hv⟩⟩
    obtain ⟨rfl, hh⟩ := hhead
    obtain ⟨rfl, l1, ht⟩ := viewVs_ok h h3 fun y hy => hx y (List.mem_cons_of_mem _ hy)
    refine ⟨rfl, by simp [l1], fun I' hv j y V u hj hV hu => ?_⟩
    cases j with
    | zero =>
      simp at hj hV
      subst hj hV
      exact hh I' hv.weak.1 u hu
    | succ j =>
      have := ht I' hv.weak.2 j y V u (by simpa using hj) (by simpa using hV) hu
      rwa [show j0 + 1 + j = j0 + (j + 1) from by omega] at this
theorem ResRel.owned {I I' : Nat → Prop} {w : World} {rs : List V} {v : Value} {F : Fp} (h : ResRel I w rs v F) (ho : rs.all V.owned = true) : ResRel I' w rs v F := by
  have key : ∀ {g : Nat → Option Value} {rs : List V} {o : Nat} {F : Fp}, VsN I w g rs o F → rs.all V.owned = true → VsN I' w g rs o F := by
    intro g rs
    induction rs with
    | nil => intro o F h _; exact h
    | cons r rs ih =>
      intro o F h ho
      simp only [List.all_cons, Bool.and_eq_true] at ho
      obtain ⟨x, F1, F2, hx, h1, h2, rfl⟩ := h
      exact ⟨x, F1, F2, hx, h1.owned ho.1, ih h2 ho.2, rfl⟩
  unfold ResRel at h ⊢
  split
  · rename_i r
    simp only [List.all_cons, List.all_nil, Bool.and_true] at ho
    exact VN.owned h ho
  · rename_i hne
    split at h
    · rename_i r; exact absurd rfl (hne r)
    · obtain ⟨vs, rfl, hs, hn⟩ := h
      exact ⟨vs, rfl, hs, key hn ho⟩
/-- The blocks on which a view leans. -/
theorem SR.view {c : Cx} {H : Fp} {S : St} {a : Act} {w : World} (h : SR c H S a w) (f : Bool) : ∃ I' : Nat → Prop, Vw c S a w I' f ∧ (f = false → I' = c.I) ∧ ∀ b, I' b → b < w.heap.size ∧ H b = 0 := by
  obtain ⟨Fs, g1, g2, g3, g4, g5, g6, g7⟩ := h.slots
  have himm : ∀ b, c.I b → b < w.heap.size ∧ H b = 0 := fun b hb => by
    obtain ⟨i1, i2⟩ := h.imm b hb
    refine ⟨Nat.lt_of_lt_of_le i1 h.hsize, ?_⟩
    rcases Nat.eq_zero_or_pos (H b) with h0 | h0
    · exact h0
    · have := (g6 b h0).2 i1; omega
  cases f with
  | false => exact ⟨c.I, ⟨fun _ h => h, fun e => by cases e⟩, fun _ => rfl, himm⟩
  | true =>
    refine ⟨fun b => c.I b ∨ ∃ k, 0 < Fs k b, ⟨fun _ h => .inl h, fun _ => ⟨Fs, g1, fun k b hb => .inr ⟨k, hb⟩, fun k b => by have := g2 k b; omega⟩⟩, fun e => (by cases e), fun b hb => ?_⟩
    rcases hb with hb | ⟨k, hk⟩
    · exact himm b hb
    · exact ⟨(g5 k b hk).1, by have := g2 k b; omega⟩
theorem callP_ok {P : Program} {ioF : Nat → Option Nat} {E : CallF} (hE : EOK P ioF E) {c : Cx} {S S' : St} {a : Act} {w : World} (h : SR c zF S a w) {dst : Option Nat} {vs : List Nat} {f : Nat} {xs : List X} {u : Unit}
    (hr : (callP E dst vs f (ioF f) xs).run S = some (u, S')) {vals : Array Value} (hx : XVs c a xs vals) (hd : ∀ rs, dstOkR c dst vs rs) :
    Callable P f ∧ Calls P f vals w fun e w' => ∃ v, e = .returned v ∧ SR c zF S' (a.put dst v) w' := by
  have hxm : ∀ x, x ∈ xs → ∃ v, XV c a x v := fun x hx' => by obtain ⟨j, hj, rfl⟩ := List.getElem_of_mem hx'; obtain ⟨v, _, hv⟩ := hx.2 j _ (List.getElem?_eq_getElem hj); exact ⟨v, hv⟩
  unfold callP at hr
  cases hio : ioF f with
  | none =>
    simp only [hio] at hr
    obtain ⟨p, S1, h1, h2⟩ := Pg.bind_some hr
    obtain ⟨args, fl⟩ := p
    obtain ⟨rfl, l1, hv⟩ := viewVs_ok h h1 hxm
    simp only at h2
    split at h2
    · rename_i rs heq
      obtain ⟨hown, h2⟩ := Pg.ite_some h2
      obtain ⟨⟨hcal, hspec⟩, _⟩ := hE f args rs [] heq
      refine ⟨hcal, ?_⟩
      obtain ⟨I', hvw, hI, hIb⟩ := h.view fl
      rw [hio] at hspec
      refine (hspec I' w vals zF (by rw [hx.1, l1]) ?_ hIb (fun b => by simp [zF]) (fun b hb => by simp [zF] at hb) (show _ ∧ _ from ⟨fun j e => (by cases e), fun _ => rfl⟩)).mono ?_
      · intro j V v hV hval
        have hjl : j < xs.length := by rw [← l1]; exact lt_of_get hV
        obtain ⟨v', e1, e2⟩ := hx.2 j _ (List.getElem?_eq_getElem hjl)
        rw [hval] at e1
        obtain rfl := Option.some.inj e1
        simpa using (hv I' hvw j _ V v (List.getElem?_eq_getElem hjl) hV e2).2 (by simp)
      · rintro e w' ⟨v, FR, FI, rfl, q1, q2, q3, q4, q5, q6, rfl, q8, q9⟩
        refine ⟨v, rfl, ?_⟩
        have hres : ResRel c.I w' rs v FR := by
          cases fl with
          | false => rw [hI rfl] at q6; exact q6
          | true => exact q6.owned (by simpa using hown)
        have hsr : SR c (addF zF FR) S1 a w' := h.world q1 q2 q3 q4 (fun b hb _ => q5 b hb rfl) (fun b => by have := q8 b; simp only [addF, zF] at this ⊢; omega) (fun b hb => by
          simp only [z_addF] at hb
          have := q9 b (.inl hb)
          refine ⟨this.1, .inr ?_⟩
          rcases Nat.lt_or_ge b w.heap.size with hlt | hge
          · have := this.2 hlt; simp [zF] at this
          · exact hge)
        exact putR_ok hsr hres (hd rs) h2
    · exact (Pg.fail_some h2).elim
  | some j =>
    simp only [hio] at hr
    cases hxj : xs[j]? with
    | none => simp only [hxj] at hr; exact (Pg.fail_some hr).elim
    | some x =>
      simp only [hxj] at hr
      obtain ⟨t, S1, h1, h2⟩ := Pg.bind_some hr
      obtain ⟨tv, tp⟩ := t
      obtain ⟨uj, hvj, hxv⟩ := hx.2 j x hxj
      obtain ⟨F, hsr1, hvn, hback⟩ := ioTake_ok h h1 hxv
      obtain ⟨p, S2, h3, h4⟩ := Pg.bind_some h2
      obtain ⟨args, fl⟩ := p
      obtain ⟨rfl, l1, hv⟩ := viewVs_ok hsr1 h3 hxm
      simp only at h4
      split at h4
      · rename_i rs V' heq
        obtain ⟨hown, h4⟩ := Pg.ite_some h4
        obtain ⟨_, S3, h5, h6⟩ := Pg.bind_some h4
        obtain ⟨⟨hcal, hspec⟩, _⟩ := hE f args rs [V'] heq
        refine ⟨hcal, ?_⟩
        obtain ⟨I', hvw, hI, hIb⟩ := hsr1.view fl
        obtain ⟨Fs, g1, g2, g3, g4, g5, g6, g7⟩ := hsr1.slots
        have hjl : j < xs.length := lt_of_get hxj
        rw [hio] at hspec
        refine (hspec I' w vals F (by rw [hx.1, l1]) ?_ (fun b hb => ⟨(hIb b hb).1, by have := (hIb b hb).2; simp only [addF] at this; omega⟩) (fun b => by have := g4 b; simp only [addF] at this; omega)
          (fun b hb => (g6 b (by simp only [addF]; omega)).1) (show _ ∧ _ from ⟨fun j' e => (by cases e; omega), fun e => (by cases e)⟩)).mono ?_
        · intro j' V v hV hval
          have hjl' : j' < xs.length := by rw [← l1]; exact lt_of_get hV
          obtain ⟨v', e1, e2⟩ := hx.2 j' _ (List.getElem?_eq_getElem hjl')
          rw [hval] at e1
          obtain rfl := Option.some.inj e1
          have := hv I' hvw j' _ V v (List.getElem?_eq_getElem hjl') hV e2
          by_cases e : j = j'
          · subst e
            rw [if_pos rfl, this.1 (by simp)]
            rw [hvj] at hval
            obtain rfl := Option.some.inj hval
            exact hvn.frame (I' := I') (fun b hb => hvw.imm b hb) (fun _ _ => rfl) (fun _ _ => rfl)
          · rw [if_neg (by simpa using e)]
            exact this.2 (by simpa using e)
        · rintro e w' ⟨v, FR, FI, rfl, q1, q2, q3, q4, q5, q6, ⟨vj, q7, q7'⟩, q8, q9⟩
          rw [hvj] at q7
          obtain rfl := Option.some.inj q7
          refine ⟨v, rfl, ?_⟩
          have hres : ResRel c.I w' rs v FR ∧ VN c.I w' V' uj FI := by
            cases fl with
            | false => rw [hI rfl] at q6 q7'; exact ⟨q6, q7'⟩
            | true => simp only [Bool.not_true, Bool.false_or, Bool.and_eq_true] at hown; exact ⟨q6.owned hown.1, q7'.owned hown.2⟩
          have hsr : SR c (addF FR FI) S2 a w' := hsr1.world q1 q2 q3 q4 (fun b hb h0 => q5 b hb (by simp only [addF] at h0; omega)) (fun b => by have := q8 b; simp only [addF]; omega) (fun b hb => by
            simp only [addF] at hb
            have := q9 b (by omega)
            refine ⟨this.1, ?_⟩
            rcases Nat.lt_or_ge b w.heap.size with hlt | hge
            · exact .inl (by have := this.2 hlt; simp only [addF]; omega)
            · exact .inr hge)
          have hsr3 := hback w' V' FR FI S3 q5 hsr hres.2 h5
          exact putR_ok (by rw [z_addF]; exact hsr3) hres.1 (hd rs) h6
      · exact (Pg.fail_some h4).elim
end Go.Proofs.Vai

namespace Go.Proofs.Vai
open Go

/-! ### From the loaded code to the evaluator's -/
section
variable (P : Program)
def szT (t : TypeId) : Option Nat := (P.info? t).map (·.size)
def bytesT (t : TypeId) : Option Nat := (P.info? t).map (·.bytes)
def aggT (t : TypeId) : Option Bool := match P.underlying t with
  | none => none
  | some (.struct _) => some true
  | some (.array _ _) => some true
  | some _ => some false
def elemT (t : TypeId) : Option TypeId := match P.underlying t with
  | some (.slice e) => some e
  | _ => none
/-- The types of a value's cells. -/
def leafTs : Nat → TypeId → Option (List TypeId)
  | 0, _ => none
  | n + 1, t => match P.underlying t with
    | some (.struct fs) => (fs.toList.mapM fun f => leafTs n f.type).map List.flatten
    | some (.array _ _) => none
    | some _ => some [t]
    | none => none
def zeroLeaf (t : TypeId) : Option D := match P.underlying t with
  | some (.int k) => some (.i k 0)
  | some .bool => some (.b false)
  | some .string => some (.s ⟨#[]⟩)
  | some (.slice e) => (szT P e).map fun w => .sl true w []
  | some (.pointer _) => some .nilp
  | _ => none
def isZ : D → Value → Bool
  | .i k n, .int k' m => k == k' && n == m
  | .b t, .bool u => t == u
  | .s x, .string y => x.data.isEmpty && y.data.isEmpty
  | .nilp, .pointer none => true
  | .sl true _ [], .slice none 0 0 => true
  | _, _ => false
def areZ : List D → List Value → Bool
  | [], [] => true
  | d :: ds, v :: vs => isZ d v && areZ ds vs
  | _, _ => false
def zeroV (t : TypeId) : Option D := match P.info? t with
  | none => none
  | some i => match i.zero, zeroLeaf P t with
    | some z, some d => if isZ d z then some d else none
    | _, _ => none
def zeroSz (t : TypeId) : Option Nat := (P.info? t).bind fun i => i.zero.map fun z => z.cells.size
def zeroT (t : TypeId) : Option (List D) :=
  match P.info? t with
  | none => none
  | some i => match i.zero with
    | none => none
    | some z => match (leafTs P 12 t).bind fun ts => ts.mapM (zeroLeaf P) with
      | none => none
      | some zs => if areZ zs z.cells.toList then some zs else none
def cD (t : TypeId) : Value → Option D
  | .int k n => some (.i k n)
  | .bool b => some (.b b)
  | .string s => some (.s s)
  | .pointer none => some .nilp
  | .slice none 0 0 => ((elemT P t).bind (szT P)).map fun w => .sl true w []
  | .func (.func f) a b => if a.isEmpty && b.isEmpty then some (.fn f []) else none
  | _ => none
def cDs : List TypeId → List Value → Option (List D)
  | [], [] => some []
  | t :: ts, v :: vs => match cD P t v, cDs ts vs with
    | some d, some ds => some (d :: ds)
    | _, _ => none
  | _, _ => none
def cV (t : TypeId) : Value → Option V
  | .agg cs => match leafTs P 12 t with
    | some ts => (cDs P ts cs.toList).map .agg
    | none => none
  | v => (cD P t v).map .leaf
def cX (N : Nat) (t : TypeId) : Operand → Option X
  | .tmp n => if n < N then some (.t n) else none
  | .const v => (cV P t v).map .c
  | .func f => some (.c (.leaf (.fn f [])))
  | .global _ => none
def cXs (N : Nat) : List TypeId → List Operand → Option (List X)
  | _, [] => some []
  | t :: ts, o :: os => match cX P N t o, cXs N ts os with
    | some x, some xs => some (x :: xs)
    | _, _ => none
  | [], o :: os => match cX P N 0 o, cXs N [] os with
    | some x, some xs => some (x :: xs)
    | _, _ => none
def cXo (N : Nat) (t : TypeId) : Option Operand → Option (Option X)
  | none => some none
  | some o => (cX P N t o).map some
/-- The parts of a struct: where each begins, its size. -/
def cParts (N : Nat) (fs : Array Field) : List (Nat × Operand) → Option (List (Nat × Nat × X))
  | [] => some []
  | (i, x) :: r => match fs[i]? with
    | none => none
    | some f => match szT P f.type, cX P N f.type x, cParts N fs r with
      | some m, some x, some ps => some ((f.offset, m, x) :: ps)
      | _, _, _ => none
def cRows (N : Nat) (e : TypeId) : List (Nat × Operand) → Option (List (Nat × X))
  | [] => some []
  | (i, x) :: r => match cX P N e x, cRows N e r with
    | some x, some ps => some ((i, x) :: ps)
    | _, _ => none
/-- Are the values of a type compared cell by cell? Of which kind is each? 0 bool, 1 int, 2 string. -/
def kindsL (K : TypeId → Option (List Nat)) : List Field → Option (List Nat)
  | [] => some []
  | f :: fs => if f.name = "_" then none else (match K f.type, kindsL K fs with
    | some a, some b => some (a ++ b)
    | _, _ => none)
def kindsT : Nat → TypeId → Option (List Nat)
  | 0, _ => none
  | n + 1, t => match P.underlying t with
    | some .bool => some [0]
    | some (.int _) => some [1]
    | some .string => some [2]
    | some (.struct fs) => if P.stoodInHeld t = true then none else kindsL (kindsT n) fs.toList
    | _ => none
/-- Do the fields lie one behind the other? -/
def layEnd : List Field → Nat → Option Nat
  | [], o => some o
  | f :: fs, o => if f.offset = o then (match szT P f.type with
    | some m => layEnd fs (o + m)
    | none => none) else none
def eqLay : Nat → TypeId → Bool
  | 0, _ => false
  | n + 1, t => match P.underlying t with
    | some (.struct fs) => fs.toList.all (fun f => eqLay n f.type) && (layEnd P fs.toList 0).isSome && layEnd P fs.toList 0 == szT P t
    | some _ => szT P t == some 1
    | none => false
def isIntT (t : TypeId) : Bool := match P.underlying t with
  | some (.int _) => true
  | _ => false
def sameOp : Operand → Operand → Bool
  | .tmp a, .tmp b => a == b
  | .const (.int k a), .const (.int l b) => k == l && a == b
  | _, _ => false
def vkey (N : Nat) (nv : List (Nat × Nat)) (t i : Nat) : Option Nat := (nv.findIdx? fun p => p.1 == t && p.2 == i).map (N + ·)

def compO (N : Nat) (nv : List (Nat × Nat)) (ioF : Nat → Option Nat) (o : Oper) : Option O :=
  match o.op with
  | .move x => match P.underlying o.type with
    | some (.tuple ts) => match x with
      | .tmp t => if t < N ∧ 2 ≤ ts.size then ((List.range ts.size).mapM (vkey N nv t)).map O.mvt else none
      | _ => none
    | _ => (cX P N o.type x).map O.mv
  | .assign x => (cX P N o.type x).map O.asg
  | .pick c a b => match cX P N 0 c, cX P N o.type a, cX P N o.type b with
    | some c, some a, some b => some (.pick c a b)
    | _, _, _ => none
  | .alloc t => (zeroT P t).map O.alloc
  | .box t x => (cX P N t x).map O.box
  | .build t parts => match P.underlying t, zeroT P t with
    | some (.struct fs), some z => if fs.toList.all (fun f => (szT P f.type).isSome) then (cParts P N fs parts.toList).map fun ps => .build z ps else none
    | _, _ => none
  | .buildSlice t n parts => match elemT P t with
    | none => none
    | some e => match szT P e, zeroT P e, cRows P N e parts.toList with
      | some w, some zr, some ps => if zr.length = w ∧ 0 < w ∧ n * w ≤ 16777216 then some (.lit w zr n ps) else none
      | _, _, _ => none
  | .load t x => match aggT P t, szT P t, cX P N 0 x with
    | some ag, some m, some x => if ag || m = 1 then some (.load ag m x) else none
    | _, _, _ => none
  | .store t a x => match szT P t, cX P N 0 a, cX P N t x with
    | some m, some a, some x => some (.store m a x)
    | _, _, _ => none
  | .nilCheck x => (cX P N 0 x).map O.nilck
  | .binOp op t x y yt => match P.underlying t with
    | some (.int _) => match cX P N t x, cX P N yt y with
      | some x, some y => some (.bin op x y)
      | _, _ => none
    | some .string => match cX P N t x, cX P N yt y with
      | some x, some y => some (.bin op x y)
      | _, _ => none
    | some .bool => match op, cX P N t x, cX P N yt y with
      | .eql, some x, some y => some (.eqc false 0 x y)
      | .neq, some x, some y => some (.eqc true 0 x y)
      | _, _, _ => none
    | some (.pointer _) => match op, cX P N t x, cX P N yt y with
      | .eql, some x, some y => some (.eqc false 1 x y)
      | .neq, some x, some y => some (.eqc true 1 x y)
      | _, _, _ => none
    | some (.struct _) => match op, kindsT P 12 t, cX P N t x, cX P N yt y with
      | .eql, some ks, some x, some y => if eqLay P 12 t && !(P.eqGuardType P.depth t) then some (.eqs false ks x y) else none
      | .neq, some ks, some x, some y => if eqLay P 12 t && !(P.eqGuardType P.depth t) then some (.eqs true ks x y) else none
      | _, _, _, _ => none
    | _ => none
  | .unOp op _ x => (cX P N 0 x).map (O.un op)
  | .convert s d x => match P.underlying s, P.underlying d, cX P N s x with
    | some (.int _), some (.int k), some x => some (.conv k x)
    | _, _, _ => none
  | .makeFunc (.func f) first caps => if first.isEmpty then (cXs P N [] caps.toList).map (O.mkfn f) else none
  | .makeMap _ none => some .mkmap
  | .makeSlice t n m => match elemT P t with
    | none => none
    | some e => match szT P e, bytesT P e, zeroT P e, cX P N 0 n with
      | some w, some by_, some zr, some x => if zr.length = w ∧ 0 < w ∧ by_ ≤ 16384 ∧ sameOp n m = true then some (.mksl w zr x) else none
      | _, _, _, _ => none
  | .slice t x lo hi mx => match P.underlying t with
    | some (.slice e) => match lo, hi, mx with
      | none, some (.const (.int .i64 0)), some (.const (.int .i64 0)) => match szT P e, cX P N t x with
        | some w, some x => some (.cut0 w x)
        | _, _ => none
      | lo, hi, none => match szT P e, cX P N t x, cXo P N 0 lo, cXo P N 0 hi with
        | some w, some x, some lo, some hi => some (.cut w x lo hi)
        | _, _, _, _ => none
      | _, _, _ => none
    | some .string => match mx, cX P N t x, cXo P N 0 lo, cXo P N 0 hi with
      | none, some x, some lo, some hi => some (.cutstr x lo hi)
      | _, _, _, _ => none
    | _ => none
  | .fieldAddr t x i => match P.underlying t with
    | some (.struct fs) => match fs[i]? with
      | some f => match szT P f.type, cX P N 0 x with
        | some m, some x => if 0 < m then some (.faddr f.offset x) else none
        | _, _ => none
      | none => none
    | _ => none
  | .field t x i => match P.underlying t with
    | some (.struct fs) => match fs[i]? with
      | some f => match aggT P f.type, szT P f.type, cX P N t x with
        | some ag, some m, some x => if ag || m = 1 then some (.field ag f.offset m x) else none
        | _, _, _ => none
      | none => none
    | _ => none
  | .indexAddr t x i => match elemT P t with
    | none => none
    | some e => match szT P e, cX P N t x, cX P N 0 i with
      | some w, some x, some i => some (.iaddr w x i)
      | _, _, _ => none
  | .index t x i => match P.underlying t with
    | some .string => match cX P N t x, cX P N 0 i with
      | some x, some i => some (.index x i)
      | _, _ => none
    | _ => none
  | .lookup t x k ok => match P.underlying t with
    | some (.map kt et) => match P.underlying kt, zeroV P et, cX P N t x, cX P N kt k with
      | some (.int _), some z, some x, some k => some (.look z ok x k)
      | _, _, _, _ => none
    | _ => none
  | .mapUpdate t m k v => match P.underlying t with
    | some (.map kt et) => match P.underlying kt, cX P N t m, cX P N kt k, cX P N et v with
      | some (.int _), some m, some k, some v => some (.mup m k v)
      | _, _, _, _ => none
    | _ => none
  | .extract (.tmp t) i => if t < N then (vkey N nv t i).map fun k => .ext (.t k) else none
  | .call c => match c.callee with
    | .value (.func f) => (cXs P N c.argTypes.toList c.args.toList).map fun xs => .call f (ioF f) xs
    | .value (.tmp t) => if t < N then (cXs P N c.argTypes.toList c.args.toList).map fun xs => .callv (.t t) xs else none
    | .builtin .len => match c.args.toList, c.argTypes.toList with
      | [x], [t] => match P.underlying t, cX P N t x with
        | some (.slice _), some x => some (.len 0 x)
        | some .string, some x => some (.len 1 x)
        | some (.map _ _), some x => some (.len 2 x)
        | _, _ => none
      | _, _ => none
    | .builtin .append => match c.args.toList, c.argTypes.toList with
      | [s, x], [ts, tx] => match elemT P ts, P.underlying tx with
        | some e, some (.slice _) => match szT P e, bytesT P e, cX P N ts s, cX P N tx x with
          | some w, some by_, some s, some x => if 0 < w ∧ zeroSz P e = some w ∧ by_ ≤ 16384 then some (.app w s x) else none
          | _, _, _, _ => none
        | _, _ => none
      | _, _ => none
    | .builtin .max => (cXs P N c.argTypes.toList c.args.toList).map O.mx
    | .builtin .min => (cXs P N c.argTypes.toList c.args.toList).map O.mn
    | _ => none
  | _ => none
end

/-! ### Operands -/
theorem cD_cv {P : Program} {t : TypeId} {v : Value} {d : D} (h : cD P t v = some d) : cv d = some v := by
  unfold cD at h
  split at h
  · obtain rfl := Option.some.inj h; rfl
  · obtain rfl := Option.some.inj h; rfl
  · obtain rfl := Option.some.inj h; rfl
  · obtain rfl := Option.some.inj h; rfl
  · simp only [Option.map_eq_some_iff] at h; obtain ⟨w, _, rfl⟩ := h; rfl
  · split at h
    · rename_i f a b hab
      obtain rfl := Option.some.inj h
      simp only [Bool.and_eq_true, Array.isEmpty_iff] at hab
      obtain ⟨rfl, rfl⟩ := hab
      rfl
    · simp at h
  · simp at h
theorem cDs_cv {P : Program} : ∀ {ts : List TypeId} {vs : List Value} {ds : List D}, cDs P ts vs = some ds → ds.map cv = vs.map some
  | [], [], ds, h => by simp [cDs] at h; subst h; rfl
  | [], v :: vs, ds, h => by simp [cDs] at h
  | t :: ts, [], ds, h => by simp [cDs] at h
  | t :: ts, v :: vs, ds, h => by
    simp only [cDs] at h
    split at h
    · rename_i d ds' h1 h2
      obtain rfl := Option.some.inj h
      simp [cD_cv h1, cDs_cv h2]
    · simp at h
theorem cX_ok {P : Program} {c : Cx} {a : Act} {t : TypeId} {o : Operand} {x : X} (h : cX P c.n t o = some x) : XV c a x (a.eval o) := by
  cases o with
  | tmp n =>
    simp only [cX] at h
    split at h
    · rename_i hn
      obtain rfl := Option.some.inj h
      simp [XV, valOf, hn, Act.eval]
    · simp at h
  | const v =>
    simp only [cX, Option.map_eq_some_iff] at h
    obtain ⟨y, hy, rfl⟩ := h
    unfold cV at hy
    split at hy
    · rename_i cs
      split at hy
      · simp only [Option.map_eq_some_iff] at hy
        obtain ⟨ds, hds, rfl⟩ := hy
        exact ⟨cs.toList, cDs_cv hds, by simp [Act.eval]⟩
      · simp at hy
    · simp only [Option.map_eq_some_iff] at hy
      obtain ⟨d, hd, rfl⟩ := hy
      exact cD_cv hd
  | func f => simp only [cX] at h; obtain rfl := Option.some.inj h; rfl
  | global g => simp [cX] at h
theorem cXs_ok {P : Program} {c : Cx} {a : Act} : ∀ {ts : List TypeId} {os : List Operand} {xs : List X}, cXs P c.n ts os = some xs → xs.length = os.length ∧ ∀ (j : Nat) (x : X) (o : Operand), xs[j]? = some x → os[j]? = some o → XV c a x (a.eval o)
  | ts, [], xs, h => by cases ts <;> (simp [cXs] at h; subst h; exact ⟨rfl, fun j x o hj => by simp at hj⟩)
  | t :: ts, o :: os, xs, h => by
    simp only [cXs] at h
    split at h
    · rename_i x xs' h1 h2
      obtain rfl := Option.some.inj h
      obtain ⟨l, hh⟩ := cXs_ok (a := a) h2
      refine ⟨by simp [l], fun j y p hj ho => ?_⟩
      cases j with
      | zero => simp at hj ho; subst hj ho; exact cX_ok h1
      | succ j => exact hh j y p (by simpa using hj) (by simpa using ho)
    · simp at h
  | [], o :: os, xs, h => by
    simp only [cXs] at h
    split at h
    · rename_i x xs' h1 h2
      obtain rfl := Option.some.inj h
      obtain ⟨l, hh⟩ := cXs_ok (a := a) h2
      refine ⟨by simp [l], fun j y p hj ho => ?_⟩
      cases j with
      | zero => simp at hj ho; subst hj ho; exact cX_ok h1
      | succ j => exact hh j y p (by simpa using hj) (by simpa using ho)
    · simp at h
theorem cXs_XVs {P : Program} {c : Cx} {a : Act} {ts : List TypeId} {os : Array Operand} {xs : List X} (h : cXs P c.n ts os.toList = some xs) : XVs c a xs (os.map a.eval) := by
  obtain ⟨l, hh⟩ := cXs_ok (a := a) h
  refine ⟨by simp [l], fun j x hx => ?_⟩
  have hj : j < os.size := by have := lt_of_get hx; rw [l] at this; simpa using this
  exact ⟨a.eval os[j], by simp [hj], hh j x os[j] hx (by simp [hj])⟩
theorem isZ_cv {d : D} {v : Value} (h : isZ d v = true) : cv d = some v := by
  unfold isZ at h
  split at h
  · simp only [Bool.and_eq_true, beq_iff_eq] at h; obtain ⟨rfl, rfl⟩ := h; rfl
  · simp only [beq_iff_eq] at h; subst h; rfl
  · rename_i x y
    simp only [Bool.and_eq_true, Array.isEmpty_iff] at h
    obtain ⟨x⟩ := x
    obtain ⟨y⟩ := y
    simp only at h
    obtain ⟨rfl, rfl⟩ := h
    rfl
  · rfl
  · rfl
  · simp at h
theorem areZ_cv : ∀ {ds : List D} {vs : List Value}, areZ ds vs = true → ds.map cv = vs.map some
  | [], [], _ => rfl
  | [], v :: vs, h => by simp [areZ] at h
  | d :: ds, [], h => by simp [areZ] at h
  | d :: ds, v :: vs, h => by
    simp only [areZ, Bool.and_eq_true] at h
    simp [isZ_cv h.1, areZ_cv h.2]
theorem zeroT_ok {P : Program} {t : TypeId} {zs : List D} (h : zeroT P t = some zs) : ∃ i z, P.info? t = some i ∧ i.zero = some z ∧ zs.map cv = z.cells.toList.map some := by
  unfold zeroT at h
  split at h
  · simp at h
  · rename_i i hi
    split at h
    · simp at h
    · rename_i z hz
      split at h
      · simp at h
      · split at h
        · rename_i hz'
          obtain rfl := Option.some.inj h
          exact ⟨i, z, hi, hz, areZ_cv hz'⟩
        · simp at h
theorem run_zero {P : Program} {t : TypeId} {i : TypeInfo} {z : Value} (hi : P.info? t = some i) (hz : i.zero = some z) (w : World) : (zeroValue t).run P w = .ok z w := by
  simp only [zeroValue, typeInfo, Sem.run_bind, run_program, Result.andThen_ok, hi, Sem.run_pure, hz]
theorem run_size {P : Program} {t : TypeId} {m : Nat} (h : szT P t = some m) (w : World) : (sizeOf t).run P w = .ok m w := by
  unfold szT at h
  simp only [Option.map_eq_some_iff] at h
  obtain ⟨i, hi, rfl⟩ := h
  simp only [sizeOf, typeInfo, Sem.run_bind, run_program, Result.andThen_ok, hi, Sem.run_pure]
theorem run_under {P : Program} {t : TypeId} {d : TypeDesc} (h : P.underlying t = some d) (w : World) : (underlying t).run P w = .ok d w := by
  simp only [underlying, Sem.run_bind, run_program, Result.andThen_ok, h, Sem.run_pure]
theorem run_agg {P : Program} {t : TypeId} {b : Bool} (h : aggT P t = some b) (w : World) : (isAgg t).run P w = .ok b w := by
  unfold aggT at h
  split at h
  · simp at h
  · rename_i hu; obtain rfl := Option.some.inj h; simp only [isAgg, Sem.run_bind, run_under hu, Result.andThen_ok]; rfl
  · rename_i hu; obtain rfl := Option.some.inj h; simp only [isAgg, Sem.run_bind, run_under hu, Result.andThen_ok]; rfl
  · rename_i d h1 h2 hu
    obtain rfl := Option.some.inj h
    simp only [isAgg, Sem.run_bind, run_under hu, Result.andThen_ok]
    cases d <;> first | rfl | (exact absurd rfl (h1 _)) | (exact absurd rfl (h2 _ _))
theorem zero_CRel {I : Nat → Prop} {w : World} {zs : List D} {z : Value} (h : zs.map cv = z.cells.toList.map some) : z.cells.size = zs.length ∧ CRel I w (fun k => z.cells[k]?) zs 0 zF := by
  have hl : zs.length = z.cells.toList.length := by have := congrArg List.length h; simpa using this
  exact ⟨by simpa using hl.symm, by simpa using CRel_const (I := I) (w := w) zs z.cells.toList [] h⟩
end Go.Proofs.Vai

namespace Go.Proofs.Vai
open Go

structure DOk (c : Cx) (dst : Option Nat) (vs : List Nat) : Prop where
  single : vs = [] → dstOk c dst
  tup : vs ≠ [] → ∃ t, dst = some t ∧ TupOk c t vs
theorem DOk.R {c : Cx} {dst : Option Nat} {vs : List Nat} (h : DOk c dst vs) (rs : List V) : dstOkR c dst vs rs := by
  unfold dstOkR
  split
  · trivial
  · exact h.single rfl
  · rename_i d hne
    cases vs with
    | nil =>
      have := h.single rfl
      exact ⟨by simp, this.1, this.2.2, fun i k hi => by simp at hi, fun k i hk => absurd rfl (this.2.1 _ (List.mem_of_getElem? hk))⟩
    | cons k ks =>
      obtain ⟨t, ht, hh⟩ := h.tup (by simp)
      obtain rfl := Option.some.inj ht
      exact hh
  · trivial
def OpGoal (P : Program) (c : Cx) (S' : St) (o : Oper) (a : Act) (w : World) : Prop :=
  ∀ Q, o.upon P a (fun a' w' => SR c zF S' a' w') Q ((execOp a.eval o).run P w)
theorem OpGoal.value {P : Program} {c : Cx} {S' : St} {o : Oper} {a : Act} {w w' : World} {v : Value} (h : (execOp a.eval o).run P w = .ok (.value v) w') (hs : SR c zF S' (a.put o.dst v) w') : OpGoal P c S' o a w := by
  intro Q; rw [h]; exact hs
theorem OpGoal.skip {P : Program} {c : Cx} {S' : St} {o : Oper} {a : Act} {w w' : World} (h : (execOp a.eval o).run P w = .ok .skip w') (hs : SR c zF S' (a.put o.dst undef) w') : OpGoal P c S' o a w := by
  intro Q; rw [h]; exact hs
theorem SR.putZ {c : Cx} {S S' : St} {a : Act} {w : World} (h : SR c zF S a w) {dst : Option Nat} (hd : dstOk c dst) {x : V} {r : Unit} (hr : (Vai.putO dst x).run S = some (r, S')) {v : Value} (hv : VRel c.I w (AR c S a w) x v zF) : SR c zF S' (a.put dst v) w :=
  SR.putO (H := zF) (F := zF) (by rw [addF_z]; exact h) hd hr hv
theorem SR.putF {c : Cx} {F : Fp} {S S' : St} {a : Act} {w : World} (h : SR c (addF zF F) S a w) {dst : Option Nat} (hd : dstOk c dst) {x : V} {r : Unit} (hr : (Vai.putO dst x).run S = some (r, S')) {v : Value} (hv : VRel c.I w (AR c S a w) x v F) : SR c zF S' (a.put dst v) w := h.putO hd hr hv

section
variable {P : Program} {ioF : Nat → Option Nat} {E : CallF} {c : Cx} {S S' : St} {o : Oper} {a : Act} {w : World} {u : Unit} {vs : List Nat}

theorem ok_mv {x : Operand} {y : X} (ho : o.op = .move x) (hc : cX P c.n o.type x = some y) (h : SR c zF S a w) (hd : dstOk c o.dst) (hr : (stepO E o.dst vs (.mv y)).run S = some (u, S')) : OpGoal P c S' o a w := by
  obtain ⟨v, S1, h1, h2⟩ := Pg.bind_some hr
  obtain ⟨rfl, hv⟩ := getV_ok h h1 (cX_ok hc)
  exact .value (by simp [execOp, ho]) (h.putZ hd h2 hv)
theorem ok_asg {x : Operand} {y : X} (ho : o.op = .assign x) (hc : cX P c.n o.type x = some y) (h : SR c zF S a w) (hd : dstOk c o.dst) (hr : (stepO E o.dst vs (.asg y)).run S = some (u, S')) : OpGoal P c S' o a w := by
  obtain ⟨v, S1, h1, h2⟩ := Pg.bind_some hr
  obtain ⟨F, hs, hv⟩ := moveV_ok h h1 (cX_ok hc)
  exact .value (by simp [execOp, ho]) (hs.putF hd h2 hv)
theorem ok_pick {k p q : Operand} {x y z : X} (ho : o.op = .pick k p q) (hk : cX P c.n 0 k = some x) (hp : cX P c.n o.type p = some y) (hq : cX P c.n o.type q = some z) (h : SR c zF S a w) (hd : dstOk c o.dst) (hr : (stepO E o.dst vs (.pick x y z)).run S = some (u, S')) : OpGoal P c S' o a w := by
  obtain ⟨d, S1, h1, h2⟩ := Pg.bind_some hr
  obtain ⟨rfl, ht⟩ := getD_ok h h1 (cX_ok hk)
  split at h2
  · have hb : a.eval k = .bool true := by have := (TRel_plain (d := .b true) rfl).1 ht; simpa only [NRel, and_true] using this
    obtain ⟨v, S2, h3, h4⟩ := Pg.bind_some h2
    obtain ⟨rfl, hv⟩ := getV_ok h h3 (cX_ok hp)
    exact .value (by simp [execOp, ho, hb, asBool]) (h.putZ hd h4 hv)
  · have hb : a.eval k = .bool false := by have := (TRel_plain (d := .b false) rfl).1 ht; simpa only [NRel, and_true] using this
    obtain ⟨v, S2, h3, h4⟩ := Pg.bind_some h2
    obtain ⟨rfl, hv⟩ := getV_ok h h3 (cX_ok hq)
    exact .value (by simp [execOp, ho, hb, asBool]) (h.putZ hd h4 hv)
  · exact (Pg.fail_some h2).elim
theorem VRel_dead (I : Nat → Prop) (w : World) (A : D → Value → Prop) (v : Value) : VRel I w A (.leaf .dead) v zF := by
  have hz : NRel I w .dead v zF := by simp only [NRel]
  exact TRel_of_N (A := A) hz
/-- A new variable. -/
theorem SR.newBox {H F : Fp} (h : SR c (addF H F) S a w) {ds : List D} {cs : Array Value} {T : TypeId} (hl : cs.size = ds.length) (hc : CRel c.I w (fun k => cs[k]?) ds 0 F) :
    SR c (addF H (addF (oneF w.heap.size) F)) S a (w.alloc (.cells cs T)) ∧ VRel c.I (w.alloc (.cells cs T)) (AR c S a (w.alloc (.cells cs T))) (.box ds) (.pointer (some ⟨w.heap.size, 0, none⟩)) (addF (oneF w.heap.size) F) := by
  obtain ⟨Fs, g1, g2, g3, g4, g5, g6, g7⟩ := h.slots
  have h' := h.alloc (.cells cs T)
  refine ⟨by rw [show addF H (addF (oneF w.heap.size) F) = addF (addF H F) (oneF w.heap.size) from by funext z; simp only [addF]; omega]; exact h', ?_⟩
  refine ⟨w.heap.size, cs, T, F, rfl, ?_, hl, ?_, rfl⟩
  · show (w.heap.push _)[w.heap.size]? = _
    simp
  · refine CRel.frame (fun _ h => h) (fun b hb => World_heap_alloc w _ b ?_) _ _ _ _ hc fun b hb => World_heap_alloc w _ b ?_
    · have := (h.imm b hb).1; have := h.hsize; omega
    · exact (g6 b (by simp only [addF]; omega)).1
theorem ok_alloc {t : TypeId} {z : List D} (ho : o.op = .alloc t) (hz : zeroT P t = some z) (h : SR c zF S a w) (hd : dstOk c o.dst) (hr : (stepO E o.dst vs (.alloc z)).run S = some (u, S')) : OpGoal P c S' o a w := by
  obtain ⟨i, zv, hi, hzv, hcv⟩ := zeroT_ok hz
  obtain ⟨hl, hcr⟩ := zero_CRel (I := c.I) (w := w) hcv
  have hrun : (execOp a.eval o).run P w = .ok (.value (.pointer (some ⟨w.heap.size, 0, none⟩))) (w.alloc (.cells zv.cells t)) := by
    simp only [execOp, ho, Instr.alloc, newVar, newRow, Sem.run_bind, run_zero hi hzv, Result.andThen_ok, run_newObj, Sem.run_pure]
    rfl
  obtain ⟨e1, e2⟩ := SR.newBox (H := zF) (F := zF) (T := t) (by rw [addF_z]; exact h) hl hcr
  exact .value hrun (e1.putF hd hr e2)
theorem okc_leaf {I : Nat → Prop} {d : D} {v : Value} {F : Fp} (hk : firm d = true) (h : NRel I w d v F) : v.cells = #[v] := by
  cases d with
  | i k n => simp only [NRel] at h; obtain ⟨rfl, _⟩ := h; rfl
  | b t => simp only [NRel] at h; obtain ⟨rfl, _⟩ := h; rfl
  | s t => simp only [NRel] at h; obtain ⟨rfl, _⟩ := h; rfl
  | nilp => simp only [NRel] at h; obtain ⟨rfl, _⟩ := h; rfl
  | sl o wd els =>
    cases o with
    | true => simp only [NRel] at h; obtain ⟨_, _, rfl, _⟩ := h; rfl
    | false => simp only [NRel] at h; obtain ⟨_, _, _, rfl, _⟩ := h; rfl
  | pt cells => simp only [NRel] at h; obtain ⟨_, _, _, _, _, _, rfl, _⟩ := h; rfl
  | fn f caps => simp only [NRel] at h; obtain ⟨_, _, rfl, _⟩ := h; rfl
  | mp es => simp only [NRel] at h; obtain ⟨_, _, _, rfl, _⟩ := h; rfl
  | und => simp [firm] at hk
  | dead => simp [firm] at hk
  | al k j st n => simp [firm, flat] at hk
  | bp k off n => simp [firm, flat] at hk
  | el k j st i off n => simp [firm, flat] at hk
theorem okc_cells {I : Nat → Prop} {x : V} {v : Value} {F : Fp} (hk : x.okc = true) (h : VN I w x v F) : v.cells.size = x.data.length ∧ CRel I w (fun k => v.cells[k]?) x.data 0 F := by
  cases x with
  | leaf d =>
    rw [okc_leaf hk h]
    refine ⟨rfl, ?_⟩
    simp only [V.data, CRel]
    exact ⟨v, F, zF, rfl, h, rfl, (addF_z _).symm⟩
  | agg ds => obtain ⟨cs, rfl, hs, hc⟩ := h; exact ⟨hs, hc⟩
  | box ds => simp [V.okc] at hk
theorem takeV_leaf {n : Nat} {s : Sl} {d : D} {v : V} {S1 : St} (hs : S[n]? = some s) (hsc : s.c = .leaf d) (h1 : (takeV (.t n)).run S = some (v, S1)) : ∃ d', v = .leaf d' := by
  obtain ⟨s4, hs4, h1⟩ := Pg.rd_some h1
  rw [hs] at hs4
  obtain rfl := Option.some.inj hs4
  simp only [hsc] at h1
  by_cases ho : own d = true
  · rw [if_pos ho] at h1
    obtain ⟨_, h1⟩ := Pg.wr_some h1
    obtain ⟨rfl, _⟩ := Prod.mk.inj (Pg.ret_some h1); exact ⟨_, rfl⟩
  · rw [if_neg ho] at h1
    obtain ⟨_, _, _, h1⟩ := Pg.bind_some h1
    obtain ⟨rfl, _⟩ := Prod.mk.inj (Pg.ret_some h1); exact ⟨_, rfl⟩
theorem TRel.fwd {S2 : St} {a' : Act} {w' : World} {k : Nat} {s' : Sl} (hs : S2[k]? = some s') {j : Nat} {d : D} {x : Value} {F : Fp} (h : TRel c.I w (AR c S a w) d x F) (hc : cellOf w' s'.c (valOf c a' k) j = some x) : TRel c.I w' (AR c S2 a' w') (fwdD k s' j d) x zF := by
  have hdead : TRel c.I w' (AR c S2 a' w') .dead x zF := by
    have hz : NRel c.I w' .dead x zF := by simp only [NRel]
    exact TRel_of_N (A := AR c S2 a' w') hz
  cases d with
  | sl o wd els =>
    cases o with
    | true => exact ⟨rfl, s', hs, Nat.le_refl _, fun _ => hc⟩
    | false => exact hdead
  | i k n => exact ⟨h.1, rfl⟩
  | b t => exact ⟨h.1, rfl⟩
  | s t => exact ⟨h.1, rfl⟩
  | nilp => exact ⟨h.1, rfl⟩
  | _ => exact hdead
theorem TCRel.fwd {S2 : St} {a' : Act} {w' : World} {k : Nat} {s' : Sl} (hs : S2[k]? = some s') {g : Nat → Option Value} : ∀ {ds : List D} {j : Nat} {F : Fp}, TCRel c.I w (AR c S a w) g ds j F → (∀ i, i < ds.length → cellOf w' s'.c (valOf c a' k) (j + i) = g (j + i)) → TCRel c.I w' (AR c S2 a' w') g (fwdL k s' j ds) j zF
  | [], j, F, h, _ => rfl
  | d :: ds, j, F, h, hc => by
    obtain ⟨x, F1, F2, hx, h1, h2, rfl⟩ := h
    have h0 := hc 0 (by simp)
    simp only [Nat.add_zero] at h0
    refine ⟨x, zF, zF, hx, TRel.fwd hs h1 (h0.trans hx), TCRel.fwd hs h2 fun i hi => ?_, (addF_z _).symm⟩
    have := hc (i + 1) (by simpa using hi)
    rw [show j + 1 + i = j + (i + 1) from by omega]
    exact this
theorem fwdL_length (n : Nat) (s : Sl) : ∀ (j : Nat) (ds : List D), (fwdL n s j ds).length = ds.length
  | _, [] => rfl
  | j, d :: ds => by simp [fwdL, fwdL_length n s (j + 1) ds]
theorem ok_box {t : TypeId} {x : Operand} {y : X} (ho : o.op = .box t x) (hc : cX P c.n t x = some y) (h : SR c zF S a w) (hd : dstOk c o.dst) (hr : (stepO E o.dst vs (.box y)).run S = some (u, S')) : OpGoal P c S' o a w := by
  have hrun : (execOp a.eval o).run P w = .ok (.value (.pointer (some ⟨w.heap.size, 0, none⟩))) (w.alloc (.cells (a.eval x).cells t)) := by
    simp only [execOp, ho, Instr.box, newVar, newRow, Sem.run_bind, Result.andThen_ok, run_newObj, Sem.run_pure]
    rfl
  refine .value hrun ?_
  simp only [stepO] at hr
  cases hdst : o.dst with
  | none => rw [hdst] at hr; exact (Pg.fail_some hr).elim
  | some k =>
    rw [hdst] at hr hd
    have hx := cX_ok (c := c) (a := a) hc
    cases y with
    | c v =>
      simp only at hr
      obtain ⟨hk, hr⟩ := Pg.ite_some hr
      obtain ⟨hl, hcr⟩ := okc_cells (I := c.I) (w := w) hk (VN.const hx)
      obtain ⟨e1, e2⟩ := SR.newBox (H := zF) (F := zF) (T := t) (by rw [addF_z]; exact h) hl hcr
      exact e1.putF (dst := some k) hd hr e2
    | t n =>
      simp only at hr
      obtain ⟨s, hs, hr⟩ := Pg.rd_some hr
      by_cases hkn : k = n
      · rw [if_pos hkn] at hr; exact (Pg.fail_some hr).elim
      rw [if_neg hkn] at hr
      obtain ⟨v, S1, h1, h2⟩ := Pg.bind_some hr
      obtain ⟨hk, h2⟩ := Pg.ite_some h2
      obtain ⟨_, S2, h3, h4⟩ := Pg.bind_some h2
      obtain ⟨s', hs', h4⟩ := Pg.rd_some h4
      obtain ⟨s2, hs2, h4⟩ := Pg.rd_some h4
      obtain ⟨_, h4⟩ := Pg.wr_some h4
      obtain ⟨_, rfl⟩ := Prod.mk.inj (Pg.ret_some h4)
      obtain ⟨F, hsr, hvn, hm⟩ := takeV_ok h h1 hx
      obtain ⟨hl, hcr⟩ := okc_cells hk hvn
      obtain ⟨e1, e2⟩ := SR.newBox (T := t) hsr hl hcr
      have hput := e1.putO (dst := some k) hd h3 e2
      obtain ⟨s3, hs3, rfl⟩ := putS_ok h3
      have hsk : s' = s3.up2 (.box v.data) := by
        rw [List.getElem?_set_self (lt_of_get hs3)] at hs'
        exact (Option.some.inj hs').symm
      have hvk : valOf c (a.put (some k) (.pointer (some ⟨w.heap.size, 0, none⟩))) k = .pointer (some ⟨w.heap.size, 0, none⟩) := by rw [valOf_put hd h.size, if_pos rfl]
      have hvn' : valOf c (a.put (some k) (.pointer (some ⟨w.heap.size, 0, none⟩))) n = a.eval x := by rw [valOf_put hd h.size, if_neg (Ne.symm hkn)]; exact hx.symm
      have hcell : ∀ j, cellOf (w.alloc (.cells (a.eval x).cells t)) s'.c (valOf c (a.put (some k) (.pointer (some ⟨w.heap.size, 0, none⟩))) k) j = (a.eval x).cells[j]? := by
        intro j
        rw [hvk, hsk]
        show (match (w.heap.push _)[w.heap.size]? with | some (Obj.cells cs _ _) => cs[j]? | _ => none) = _
        simp
      obtain ⟨Fs, g1, _⟩ := h.slots
      have hv0 := g1 n s hs
      rw [← hx] at hv0
      refine SR.reset (H := zF) (F := zF) (by rw [addF_z]; exact hput) hs2 ?_
      rw [hvn']
      cases hsc : s.c with
      | leaf d =>
        rw [hsc] at hv0
        refine TRel.fwd hs' hv0 ?_
        rw [hcell]
        obtain ⟨d', rfl⟩ := takeV_leaf hs hsc h1
        rw [okc_leaf hk hvn]; rfl
      | agg ds =>
        rw [hsc] at hv0
        obtain ⟨cs, hval, hl', ht⟩ := hv0
        refine ⟨cs, hval, by simpa [fwdL_length] using hl', TCRel.fwd hs' ht fun i hi => ?_⟩
        rw [hcell, hval]; rfl
      | box ds =>
        exact VRel_dead _ _ _ _
end
end Go.Proofs.Vai

namespace Go.Proofs.Vai
open Go

section
variable {P : Program} {ioF : Nat → Option Nat} {E : CallF} {c : Cx} {S S' : St} {o : Oper} {a : Act} {w : World} {u : Unit} {vs : List Nat}

theorem CRel.shift {I : Nat → Prop} {w : World} {g g2 : Nat → Option Value} : ∀ {ds : List D} {o o2 : Nat} {F : Fp}, CRel I w g ds o F → (∀ i, i < ds.length → g2 (o2 + i) = g (o + i)) → CRel I w g2 ds o2 F
  | [], o, o2, F, h, _ => by simpa only [CRel] using h
  | d :: ds, o, o2, F, h, hg => by
    simp only [CRel] at h ⊢
    obtain ⟨x, F1, F2, hx, h1, h2, rfl⟩ := h
    have h0 := hg 0 (by simp)
    simp only [Nat.add_zero] at h0
    exact ⟨x, F1, F2, h0.trans hx, h1, CRel.shift h2 fun i hi => by
      have := hg (i + 1) (by simpa using hi)
      rwa [show o2 + 1 + i = o2 + (i + 1) from by omega, show o + 1 + i = o + (i + 1) from by omega], rfl⟩
theorem CRel.mid {I : Nat → Prop} {w : World} {g : Nat → Option Value} {ds : List D} {o : Nat} {F : Fp} (h : CRel I w g ds o F) (off m : Nat) (hm : off + m ≤ ds.length) :
    ∃ F1 F2 F3, CRel I w g (ds.take off) o F1 ∧ CRel I w g ((ds.drop off).take m) (o + off) F2 ∧ CRel I w g (ds.drop (off + m)) (o + off + m) F3 ∧ F = addF F1 (addF F2 F3) := by
  have e : ds = ds.take off ++ ((ds.drop off).take m ++ ds.drop (off + m)) := by
    rw [← List.drop_drop, List.take_append_drop, List.take_append_drop]
  rw [e] at h
  obtain ⟨F1, G, h1, h2, rfl⟩ := (CRel.app _ _ _ _).1 h
  obtain ⟨F2, F3, h3, h4, rfl⟩ := (CRel.app _ _ _ _).1 h2
  have l1 : (ds.take off).length = off := by simp; omega
  have l2 : ((ds.drop off).take m).length = m := by simp; omega
  rw [l1] at h3 h4
  rw [l2] at h4
  exact ⟨F1, F2, F3, h1, h3, h4, rfl⟩
theorem addr_add (b o n : Nat) : (⟨b, o, none⟩ : Addr).add n = ⟨b, o + n, none⟩ := by
  unfold Addr.add
  split
  · rename_i h; subst h; rfl
  · rfl
theorem run_loadVar {t : TypeId} {ag : Bool} {m b o : Nat} {cs : Array Value} {T : TypeId} {fr : Nat × Nat} (ha : aggT P t = some ag) (hm : szT P t = some m) (hg : w.heap[b]? = some (.cells cs T fr)) (hs : o + m ≤ cs.size) (h1 : ag = false → m = 1) :
    (loadVar t ⟨b, o, none⟩).run P w = .ok (if ag then .agg ((cs.toList.drop o).take m).toArray else ((cs.toList.drop o).take m).headD undef) w := by
  simp only [loadVar, Sem.run_bind, run_agg ha, Result.andThen_ok]
  cases ag with
  | true =>
    have hl : ((cs.toList.drop o).take m).length = m := by simp; omega
    have := run_loadCells_list (P := P) w ⟨b, o, none⟩ ((cs.toList.drop o).take m) (fun j v hj => by
      rw [addr_add]
      have hjm : j < m := by have := lt_of_get hj; omega
      rw [List.getElem?_take_of_lt hjm, List.getElem?_drop] at hj
      simp only [World.cell?, hg]
      simpa using hj)
    rw [hl] at this
    simp only [if_true, Sem.run_bind, run_size hm, Result.andThen_ok, this, Sem.run_pure]
  | false =>
    obtain rfl := h1 rfl
    have hlt : o < cs.size := by omega
    have hc : w.cell? ⟨b, o, none⟩ = some cs[o] := by simp [World.cell?, hg, hlt]
    simp only [Bool.false_eq_true, if_false, run_load, hc]
    congr 1
    have : (cs.toList.drop o).take 1 = [cs[o]] := by
      rw [List.drop_eq_getElem_cons (by simpa using hlt)]; simp
    rw [this]; rfl
theorem pick_ok {I : Nat → Prop} {A : D → Value → Prop} {ag : Bool} {ds : List D} {v : V} {S S1 : St} (hr : (V.pick ag ds).run S = some (v, S1)) {vals : List Value} {F : Fp} (hl : vals.length = ds.length) (h : TCRel I w A (fun j => vals[j]?) ds 0 F) :
    S1 = S ∧ VRel I w A v (if ag then .agg vals.toArray else vals.headD undef) F := by
  unfold V.pick at hr
  cases ag with
  | true =>
    obtain ⟨rfl, rfl⟩ := Prod.mk.inj (Pg.ret_some hr)
    exact ⟨rfl, vals.toArray, rfl, by simpa using hl, by simpa using h⟩
  | false =>
    simp only [Bool.false_eq_true, if_false] at hr
    split at hr
    · rename_i d
      obtain ⟨rfl, rfl⟩ := Prod.mk.inj (Pg.ret_some hr)
      obtain ⟨x, F1, F2, hx, h1, h2, rfl⟩ := h
      have h2 : F2 = zF := h2
      subst h2
      cases vals with
      | nil => simp at hx
      | cons v0 r =>
        simp at hx
        subst hx
        exact ⟨rfl, by rw [addF_z]; exact h1⟩
    · exact (Pg.fail_some hr).elim
theorem pick_agg {ag : Bool} {ds : List D} {v : V} {S S1 : St} (hr : (V.pick ag ds).run S = some (v, S1)) : ag = false → ds.length = 1 := by
  intro e
  subst e
  unfold V.pick at hr
  simp only [Bool.false_eq_true, if_false] at hr
  split at hr
  · rfl
  · exact (Pg.fail_some hr).elim
theorem TCRel_noOwn {I : Nat → Prop} {A : D → Value → Prop} {g : Nat → Option Value} {ds : List D} {o : Nat} {F : Fp} (h : CRel I w g ds o F) (ho : ds.all (fun d => !own d) = true) : TCRel I w A g ds o zF := by
  have h1 := TCRel_of_C (A := A) h
  have := TCRel_notOwn_z h1 (by rw [List.any_eq_false]; intro d hd; simpa using List.all_eq_true.1 ho d hd)
  rwa [this] at h1
/-- A load through an address. -/
theorem loadP_ok (h : SR c zF S a w) {ag : Bool} {m : Nat} {d : D} {v : V} (hr : (loadP ag m d).run S = some (v, S')) {p : Value} (hp : TRel c.I w (AR c S a w) d p zF) :
    S' = S ∧ ∃ b o cs T fr, p = .pointer (some ⟨b, o, none⟩) ∧ w.heap[b]? = some (.cells cs T fr) ∧ o + m ≤ cs.size ∧ (ag = false → m = 1) ∧
      VRel c.I w (AR c S a w) v (if ag then .agg ((cs.toList.drop o).take m).toArray else ((cs.toList.drop o).take m).headD undef) zF := by
  obtain ⟨Fs, g1, g2, g3, g4, g5, g6, g7⟩ := h.slots
  cases d with
  | bp k off n =>
    obtain ⟨s, hs, hr⟩ := Pg.rd_some hr
    obtain ⟨hn, hr⟩ := Pg.ite_some hr
    cases hc : s.c with
    | leaf _ => simp only [hc] at hr; exact (Pg.fail_some hr).elim
    | agg _ => simp only [hc] at hr; exact (Pg.fail_some hr).elim
    | box ds =>
      simp only [hc] at hr
      obtain ⟨hle, hr⟩ := Pg.ite_some hr
      obtain ⟨_, s', hs', _, ha⟩ := hp
      rw [hs] at hs'
      obtain rfl := Option.some.inj hs'
      obtain ⟨ds', b, hc', hval, rfl⟩ := ha hn
      rw [hc] at hc'
      obtain rfl : ds = ds' := by simpa using hc'
      have hg := g1 k s hs
      rw [hc] at hg
      obtain ⟨b', cs, T, F', hval', hb, hl, hcr, hF⟩ := hg
      rw [hval] at hval'
      obtain rfl : b = b' := by simpa using hval'
      obtain ⟨F1, F2, F3, q1, q2, q3, rfl⟩ := hcr.mid off m hle
      have hcell : ∀ j, cellOf w s.c (valOf c a k) j = cs[j]? := fun j => by rw [hc, hval]; simp [cellOf, hb]
      have hlen : ((cs.toList.drop off).take m).length = m := by simp; omega
      have hlen2 : ((ds.drop off).take m).length = m := by simp; omega
      have ht : TCRel c.I w (AR c S a w) (fun j => ((cs.toList.drop off).take m)[j]?) (dupL k s off ((ds.drop off).take m)) 0 zF := by
        refine TCRel.dup hs (TCRel_of_C (q2.shift (g2 := fun j => ((cs.toList.drop off).take m)[j]?) (o2 := 0) fun i hi => ?_)) fun i hi => ?_
        · rw [hlen2] at hi
          simp only [Nat.zero_add]
          rw [List.getElem?_take_of_lt hi, List.getElem?_drop]; simp
        · rw [hlen2] at hi
          rw [hcell]
          simp only [Nat.zero_add]
          rw [List.getElem?_take_of_lt hi, List.getElem?_drop]; simp
      obtain ⟨rfl, hv⟩ := pick_ok hr (by rw [dupL_length, hlen, hlen2]) ht
      exact ⟨rfl, b, off, cs, T, (0, 0), rfl, hb, by omega, fun e => by have := pick_agg hr e; rw [dupL_length, hlen2] at this; exact this, hv⟩
  | el k j st i off n =>
    obtain ⟨s, hs, hr⟩ := Pg.rd_some hr
    obtain ⟨hn, hr⟩ := Pg.ite_some hr
    split at hr
    case h_2 => exact (Pg.fail_some hr).elim
    rename_i wd rows hd
    cases hri : rows[i]? with
    | none => simp only [hri] at hr; exact (Pg.fail_some hr).elim
    | some r =>
      simp only [hri] at hr
      obtain ⟨hle, hr⟩ := Pg.ite_some hr
      obtain ⟨_, s', hs', _, ha⟩ := hp
      rw [hs] at hs'
      obtain rfl := Option.some.inj hs'
      obtain ⟨wd', rows', b, o, len, cap, hd', hpv, hlt, rfl⟩ := ha hn
      rw [hd] at hd'
      obtain ⟨rfl, rfl⟩ : wd = wd' ∧ rows = rows' := by simpa using hd'
      obtain ⟨x, F1, F2, hx, hn', hF, _⟩ := (g1 k s hs).at (fun b => by have := g2 k b; omega) hd rfl
      rw [hpv] at hx
      obtain rfl := Option.some.inj hx
      have hk : ∀ b, Fs k b = F1 b + F2 b := fun b => by rw [hF]; rfl
      obtain ⟨b', o', cap', cs, T, G1, G2, he, hb, hsz, hl, hcr, rfl, _⟩ := hn'.row (fun b => by have := g2 k b; have := hk b; omega) hri
      injection he with e1 e2 e3
      injection e1 with e1
      injection e1 with e1 e4 _
      subst e1 e4
      obtain ⟨K1, K2, K3, q1, q2, q3, rfl⟩ := hcr.mid off m hle
      have hlen : ((cs.toList.drop (o + i * wd + off)).take m).length = m := by simp; omega
      have hlen2 : ((r.drop off).take m).length = m := by simp; omega
      have hgv : ∀ i', i' < m → ((cs.toList.drop (o + i * wd + off)).take m)[i']? = cs[o + i * wd + off + i']? := fun i' hi' => by
        rw [List.getElem?_take_of_lt hi', List.getElem?_drop]; simp
      have hsh := q2.shift (g2 := fun j => ((cs.toList.drop (o + i * wd + off)).take m)[j]?) (o2 := 0) fun i' hi' => by
        rw [hlen2] at hi'
        simp only [Nat.zero_add]
        exact hgv i' hi'
      have fin : ∀ ds', (V.pick ag ds').run S = some (v, S') → ds'.length = m → TCRel c.I w (AR c S a w) (fun j => ((cs.toList.drop (o + i * wd + off)).take m)[j]?) ds' 0 zF → S' = S ∧ ∃ b' o' cs' T fr, Value.pointer (some ⟨b, o + i * wd + off, none⟩) = .pointer (some ⟨b', o', none⟩) ∧ w.heap[b']? = some (.cells cs' T fr) ∧ o' + m ≤ cs'.size ∧ (ag = false → m = 1) ∧
          VRel c.I w (AR c S a w) v (if ag then .agg ((cs'.toList.drop o').take m).toArray else ((cs'.toList.drop o').take m).headD undef) zF := by
        intro ds' hr hl' ht
        obtain ⟨rfl, hv⟩ := pick_ok hr (by rw [hlen, hl']) ht
        exact ⟨rfl, b, _, cs, T, (0, 0), rfl, hb, by omega, fun e => by have := pick_agg hr e; rw [hl'] at this; exact this, hv⟩
      cases st with
      | some il =>
        simp only at hr
        obtain ⟨hno, hr⟩ := Pg.ite_some hr
        exact fin _ hr hlen2 (TCRel_noOwn hsh hno)
      | none =>
        simp only at hr
        refine fin _ hr ?_ ?_
        · have : ∀ (c0 : Nat) (l : List D), (dupIn k j i s.e c0 l).length = l.length := fun c0 l => by
            induction l generalizing c0 with
            | nil => rfl
            | cons x l ih => simp [dupIn, ih]
          rw [this, hlen2]
        · -- own cells of the element become nested aliases
          have hpl : ∀ l x, cs[o + i * wd + l]? = some x → plV w s.c (valOf c a k) j (some (i, l)) = some x := by
            intro l x hx
            unfold plV at hpv ⊢
            cases hcell : cellOf w s.c (valOf c a k) j with
            | none => simp [hcell] at hpv
            | some z =>
              simp only [hcell] at hpv ⊢
              obtain rfl := Option.some.inj hpv
              simp only [hd, if_pos hlt, hb]
              exact hx
          have key : ∀ (l : List D) (c0 : Nat) (F : Fp), CRel c.I w (fun j => ((cs.toList.drop (o + i * wd + off)).take m)[j]?) l c0 F → c0 + l.length ≤ m → TCRel c.I w (AR c S a w) (fun j => ((cs.toList.drop (o + i * wd + off)).take m)[j]?) (dupIn k j i s.e (off + c0) l) c0 zF := by
            intro l
            induction l with
            | nil => intro c0 F _ _; rfl
            | cons e l ih =>
              intro c0 F hcr hle
              simp only [CRel] at hcr
              obtain ⟨x, H1, H2, hx, n1, n2, rfl⟩ := hcr
              simp only [List.length_cons] at hle
              refine ⟨x, zF, zF, hx, ?_, ?_, (addF_z _).symm⟩
              · by_cases ho : own e = true
                · rw [if_pos ho]
                  refine ⟨rfl, s, hs, Nat.le_refl _, fun _ => hpl _ x ?_⟩
                  rw [← hx, hgv c0 (by omega)]
                  congr 1; omega
                · rw [if_neg ho]
                  have h0 := TRel_of_N (A := AR c S a w) n1
                  rw [notOwn_z h0 (by simpa using ho)] at h0
                  exact h0
              · have := ih (c0 + 1) H2 n2 (by omega)
                rwa [show off + (c0 + 1) = off + c0 + 1 from by omega] at this
          exact key _ 0 _ hsh (by omega)
  | pt cells =>
    obtain ⟨hle, hr⟩ := Pg.ite_some hr
    have hp := (TRel_plain (d := .pt cells) rfl).1 hp
    simp only [NRel] at hp
    obtain ⟨_, b, o, cs, T, fr, rfl, hI, hb, hcr⟩ := hp
    obtain ⟨hm0, hle⟩ := hle
    have hsz : o + cells.length ≤ cs.size := by
      obtain ⟨x, hx⟩ := hcr.len_ok cells _ _ (cells.length - 1) (by omega)
      obtain ⟨hlt, _⟩ := Array.getElem?_eq_some_iff.1 hx
      omega
    have hlen : ((cs.toList.drop o).take m).length = m := by simp; omega
    have hlen2 : (cells.take m).length = m := by simp; omega
    obtain ⟨K1, K2, K3, q1, q2, q3, hz⟩ := hcr.mid 0 m (by omega)
    have hK2 : K2 = zF := by funext z; have := congrFun hz z; simp only [addF, zF] at this ⊢; omega
    subst hK2
    have hsh := q2.shift (g2 := fun j => ((cs.toList.drop o).take m)[j]?) (o2 := 0) fun i' hi' => by
      simp only [List.drop_zero] at hi'
      rw [hlen2] at hi'
      simp only [Nat.zero_add, Nat.add_zero]
      rw [List.getElem?_take_of_lt hi', List.getElem?_drop]; simp
    simp only [List.drop_zero] at hsh
    obtain ⟨rfl, hv⟩ := pick_ok (I := c.I) (A := AR c S a w) hr (by rw [hlen, hlen2]) (TCRel_of_C hsh)
    exact ⟨rfl, b, o, cs, T, fr, rfl, hb, by omega, fun e => by have := pick_agg hr e; rw [hlen2] at this; exact this, hv⟩
  | _ => exact (Pg.fail_some hr).elim

theorem ok_load {t : TypeId} {x : Operand} {y : X} {ag : Bool} {m : Nat} (ho : o.op = .load t x) (ha : aggT P t = some ag) (hm : szT P t = some m) (hc : cX P c.n 0 x = some y) (h : SR c zF S a w) (hd : dstOk c o.dst) (hr : (stepO E o.dst vs (.load ag m y)).run S = some (u, S')) : OpGoal P c S' o a w := by
  obtain ⟨d, S1, h1, h2⟩ := Pg.bind_some hr
  obtain ⟨v, S2, h3, h4⟩ := Pg.bind_some h2
  obtain ⟨rfl, ht⟩ := getD_ok h h1 (cX_ok hc)
  obtain ⟨rfl, b, off, cs, T, fr, hp, hg, hs, h5, hv⟩ := loadP_ok h h3 ht
  refine .value (w' := w) ?_ (h.putZ hd h4 hv)
  simp only [execOp, ho, Instr.loadAt, hp, Instr.sureAddr, Sem.run_bind, Sem.run_pure, Result.andThen_ok, run_loadVar ha hm hg hs h5]

/-- A slot's content changes, and with it one block that it owns. -/
theorem SR.local {H F : Fp} {w' : World} (h : SR c (addF H F) S a w) {k : Nat} {s : Sl} (hs : S[k]? = some s) (b : Nat) (s' : Sl) (ho : w'.os = w.os) (ht : w'.tape = w.tape) (hp : w'.output = w.output) (hsz : w'.heap.size = w.heap.size)
    (hw : ∀ b', b' ≠ b → w'.heap[b']? = w.heap[b']?) (he : s.e < s'.e) (hle : s.h ≤ s'.h) (hxe : s.x ≤ s'.x)
    (hh : s'.h = s.h → ∀ j v, cellOf w s.c (valOf c a k) j = some v → cellOf w' s'.c (valOf c a k) j = some v)
    (hx : s'.x = s.x → ∀ ds, s.c = .box ds → ∃ ds', s'.c = .box ds')
    (hv : ∀ Fk, VRel c.I w (AR c S a w) s.c (valOf c a k) Fk → (∀ z, Fk z + F z ≤ 1) → 0 < Fk b ∧ ((∀ b', c.I b' → w'.heap[b']? = w.heap[b']?) → ∃ Fk', (∀ z, Fk' z ≤ Fk z + F z) ∧ ∀ A' : D → Value → Prop, (∀ d v, AR c S a w d v → A' d v) → VRel c.I w' A' s'.c (valOf c a k) Fk')) :
    SR c H (S.set k s') a w' := by
  obtain ⟨Fs, g1, g2, g3, g4, g5, g6, g7⟩ := h.slots
  obtain ⟨hb, hv⟩ := hv (Fs k) (g1 k s hs) (fun z => by have := g2 k z; simp only [addF] at this; omega)
  have himm : ∀ b', c.I b' → w'.heap[b']? = w.heap[b']? := fun b' hb' => hw b' (fun e => by
    subst e
    obtain ⟨i1, i2⟩ := h.imm b' hb'
    have := (g5 k b' hb).2 i1; omega)
  obtain ⟨Fk', hF, hv⟩ := hv himm
  have hoth : ∀ k', k' ≠ k → ∀ b', 0 < Fs k' b' → w'.heap[b']? = w.heap[b']? := fun k' hne b' hb' => hw b' (fun e => by subst e; have := g3 k' k b' hne; omega)
  have hnext : ∀ d v, AR c S a w d v → AR c (S.set k s') a w' d v := by
    refine AR.next fun k' s2 hs2 => ?_
    by_cases e : k = k'
    · subst e
      rw [hs] at hs2
      obtain rfl := Option.some.inj hs2
      exact ⟨_, List.getElem?_set_self (lt_of_get hs), Nat.le_of_lt he, hle, hxe, hh, fun e => by omega, fun e => ⟨rfl, hx e⟩⟩
    · exact ⟨s2, by rw [List.getElem?_set_ne e]; exact hs2, Nat.le_refl _, Nat.le_refl _, Nat.le_refl _, AR.refl_slot (g1 k' s2 hs2) (hoth k' (Ne.symm e)) rfl⟩
  refine ⟨h.defers, h.size, by simpa using h.len, h.pins, ho.trans h.os, ht.trans h.tape, hp.trans h.output, by rw [hsz]; exact h.hsize, ?_, h.imm, fun k' => if k' = k then Fk' else Fs k', ?_, ?_, ?_, ?_, ?_, ?_, ?_⟩
  · intro b' hb' h0
    rw [← h.frame b' hb' h0]
    refine hw b' (fun e => ?_)
    subst e
    have := (g5 k b' hb).2 hb'; omega
  · intro k' s2 hs2
    by_cases e : k' = k
    · subst e
      rw [List.getElem?_set_self (lt_of_get hs)] at hs2
      obtain rfl := Option.some.inj hs2
      simp only [if_true]
      exact hv _ hnext
    · rw [List.getElem?_set_ne (Ne.symm e)] at hs2
      simp only [e, if_false]
      exact (g1 k' s2 hs2).mono himm (hoth k' e) hnext
  · intro k' z
    by_cases e : k' = k
    · subst e; simp only [if_true]; have := g2 k' z; have := hF z; simp only [addF] at *; omega
    · simp only [e, if_false]; have := g2 k' z; simp only [addF] at this; omega
  · intro k1 k2 z hne
    by_cases e1 : k1 = k <;> by_cases e2 : k2 = k <;> simp only [e1, e2, if_true, if_false]
    · exact absurd (e1.trans e2.symm) hne
    · have q1 := g3 k k2 z (by rw [← e1]; exact hne); have q2 := g2 k2 z; have q3 := g2 k z; have := hF z; simp only [addF] at q2 q3; omega
    · have q1 := g3 k1 k z (by rw [← e2]; exact hne); have q2 := g2 k1 z; have q3 := g2 k z; have := hF z; simp only [addF] at q2 q3; omega
    · exact g3 k1 k2 z hne
  · intro z; have := g4 z; simp only [addF] at this; omega
  · intro k' z
    by_cases e : k' = k
    · subst e; simp only [if_true]; intro hz; rw [hsz]
      have := hF z
      rcases Nat.eq_zero_or_pos (Fs k' z) with h0 | h0
      · exact g6 z (by simp only [addF]; omega)
      · exact g5 k' z h0
    · simp only [e, if_false]; rw [hsz]; exact g5 k' z
  · intro z hz; rw [hsz]; exact g6 z (by simp only [addF]; omega)
  · intro k' hk'
    have : k' ≠ k := fun e => by subst e; have := lt_of_get hs; simp at hk'; omega
    simp only [this, if_false]
    exact g7 k' (by simpa using hk')
theorem splice_length (ds xs : List D) (off : Nat) (h : off + xs.length ≤ ds.length) : (splice ds off xs).length = ds.length := by
  simp [splice]; omega
/-- The cells of a block, some of them anew. -/
def cut3 (cs : Array Value) (o : Nat) (ys : List Value) : Array Value := (cs.toList.take o ++ ys ++ cs.toList.drop (o + ys.length)).toArray
theorem cut3_size (cs : Array Value) (o : Nat) (ys : List Value) (h : o + ys.length ≤ cs.size) : (cut3 cs o ys).size = cs.size := by
  simp [cut3]; omega
theorem cut3_in (cs : Array Value) (o : Nat) (ys : List Value) (h : o + ys.length ≤ cs.size) (i : Nat) (hi : i < ys.length) : (cut3 cs o ys)[o + i]? = ys[i]? := by
  have hl : (cs.toList.take o).length = o := by simp; omega
  simp only [cut3, List.getElem?_toArray, List.append_assoc]
  rw [List.getElem?_append_right (by omega), hl, Nat.add_sub_cancel_left, List.getElem?_append_left hi]
theorem cut3_out (cs : Array Value) (o : Nat) (ys : List Value) (h : o + ys.length ≤ cs.size) (k : Nat) (hk : k < o ∨ o + ys.length ≤ k) : (cut3 cs o ys)[k]? = cs[k]? := by
  have hl : (cs.toList.take o).length = o := by simp; omega
  simp only [cut3, List.getElem?_toArray, List.append_assoc]
  rcases hk with hk | hk
  · rw [List.getElem?_append_left (by omega), List.getElem?_take_of_lt hk]; simp
  · rw [List.getElem?_append_right (by omega), hl, List.getElem?_append_right (by omega), List.getElem?_drop]
    rw [show o + ys.length + (k - o - ys.length) = k from by omega]; simp
theorem splice_CRel {I : Nat → Prop} {w w' : World} (hi : ∀ b, I b → w'.heap[b]? = w.heap[b]?) {cs : Array Value} {ds xs : List D} {p off : Nat} {F Fx : Fp} {ys : List Value} (h : CRel I w (fun k => cs[k]?) ds p F) (hle : off + xs.length ≤ ds.length) (hy : ys.length = xs.length) (hsz : p + off + ys.length ≤ cs.size)
    (hx : CRel I w' (fun k => ys[k]?) xs 0 Fx) (hf : ∀ b, 0 < F b → w'.heap[b]? = w.heap[b]?) : ∃ F', (∀ z, F' z ≤ F z + Fx z) ∧ CRel I w' (fun k => (cut3 cs (p + off) ys)[k]?) (splice ds off xs) p F' := by
  obtain ⟨F1, F2, F3, q1, q2, q3, rfl⟩ := h.mid off xs.length hle
  refine ⟨addF F1 (addF Fx F3), fun z => by simp only [addF]; omega, ?_⟩
  have l1 : (ds.take off).length = off := by simp; omega
  unfold splice
  rw [List.append_assoc]
  refine (CRel.app _ _ _ _).2 ⟨F1, addF Fx F3, ?_, (CRel.app _ _ _ _).2 ⟨Fx, F3, ?_, ?_, rfl⟩, rfl⟩
  · refine (CRel.frame (fun _ h => h) hi _ _ _ _ q1 fun b hb => hf b (by simp only [addF]; omega)).congr _ _ _ fun k h1 h2 => ?_
    rw [l1] at h2
    exact cut3_out cs _ ys hsz k (.inl h2)
  · rw [l1]
    refine hx.shift fun i hi => ?_
    rw [Nat.zero_add]
    exact cut3_in cs _ ys hsz i (by omega)
  · rw [l1]
    refine (CRel.frame (fun _ h => h) hi _ _ _ _ q3 fun b hb => hf b (by simp only [addF]; omega)).congr _ _ _ fun k h1 h2 => ?_
    exact cut3_out cs _ ys hsz k (.inr (by omega))
theorem NRel.own_block {I : Nat → Prop} {wd : Nat} {rows : List (List D)} {b o len cap : Nat} {F : Fp} (h : NRel I w (.sl true wd rows) (.slice (some ⟨b, o, none⟩) len cap) F) {i : Nat} (hi : i < rows.length) : 0 < F b := by
  simp only [NRel] at h
  obtain ⟨a, cap', he, hc, h⟩ := h
  injection he with e1 e2 e3
  subst e1 e2 e3
  rcases h with ⟨rfl, _⟩ | ⟨b', o', cs, T, F', ha, _, _, _, _, rfl⟩
  · omega
  · injection ha with ha
    injection ha with e _ _
    subst e
    simp only [addF, oneF_self]; omega
theorem own_in_box {ds : List D} {v : Value} {F : Fp} {A : D → Value → Prop} {I : Nat → Prop} (h : VRel I w A (.box ds) v F) (h1 : ∀ z, F z ≤ 1) {j : Nat} {st : Option (Nat × Nat)} {wd : Nat} {rows : List (List D)} (hd : plD (.box ds) j st = some (.sl true wd rows))
    {b o len cap : Nat} (hp : plV w (.box ds) v j st = some (.slice (some ⟨b, o, none⟩) len cap)) {i : Nat} (hi : i < rows.length) {b' : Nat} (hv : v = .pointer (some ⟨b', 0, none⟩)) : b' ≠ b := by
  rintro rfl
  obtain ⟨b2, cs, T, F', hv', hb, hl, hcr, rfl⟩ := h
  rw [hv] at hv'
  obtain rfl : b' = b2 := by simpa using hv'
  have hF' : F' b' = 0 := by have := h1 b'; simp only [addF, oneF_self] at this; omega
  simp only [plD, V.cells] at hd
  cases hj : ds[j]? with
  | none => simp [hj] at hd
  | some e =>
    simp only [hj] at hd
    obtain ⟨y, H1, H2, hy, hn, rfl, _⟩ := CRel.at ds 0 F' hcr j e hj
    simp only [Nat.zero_add] at hy
    simp only [addF] at hF'
    cases st with
    | none =>
      obtain rfl := Option.some.inj hd
      simp only [plV, hv, cellOf, hb, hy] at hp
      obtain rfl := Option.some.inj hp
      have := hn.own_block hi
      omega
    | some il =>
      obtain ⟨i0, l0⟩ := il
      simp only at hd
      split at hd
      · rename_i wd0 rows0
        cases hr : rows0[i0]? with
        | none => simp [hr] at hd
        | some r0 =>
          simp only [hr] at hd
          obtain ⟨b3, o3, cap3, cs3, T3, G1, G2, rfl, hb3, _, _, hcr3, rfl, _⟩ := hn.row (fun z => by have := h1 z; simp only [addF] at this; omega) hr
          obtain ⟨x, K1, K2, hx, hnx, rfl, _⟩ := CRel.at r0 _ _ hcr3 l0 _ hd
          simp only [plV, hv, cellOf, hb, hy, plD, V.cells, hj, if_pos (lt_of_get hr), hb3] at hp
          rw [hx] at hp
          obtain rfl := Option.some.inj hp
          have := hnx.own_block hi
          simp only [addF] at hF'
          omega
      · simp at hd
/-- A store through an address. -/
theorem storeP_ok {F : Fp} (h : SR c (addF zF F) S a w) {xs : List D} {d : D} (hr : (storeP xs d).run S = some (u, S')) {p : Value} (hp : TRel c.I w (AR c S a w) d p zF) {ys : List Value} (hy : ys.length = xs.length) (hx : CRel c.I w (fun k => ys[k]?) xs 0 F) :
    ∃ b o cs T, p = .pointer (some ⟨b, o, none⟩) ∧ w.heap[b]? = some (.cells cs T (0, 0)) ∧ o + ys.length ≤ cs.size ∧ SR c zF S' a (w.setRow b (cut3 cs o ys)) := by
  obtain ⟨Fs, g1, g2, g3, g4, g5, g6, g7⟩ := h.slots
  have hFw : ∀ b, (∃ k, 0 < Fs k b) → F b = 0 := fun b ⟨k, hk⟩ => by have := g2 k b; simp only [addF, zF] at this; omega
  cases d with
  | bp k off n =>
    obtain ⟨s, hs, hr⟩ := Pg.rd_some hr
    obtain ⟨hn, hr⟩ := Pg.ite_some hr
    cases hc : s.c with
    | leaf _ => simp only [hc] at hr; exact (Pg.fail_some hr).elim
    | agg _ => simp only [hc] at hr; exact (Pg.fail_some hr).elim
    | box ds =>
      simp only [hc] at hr
      obtain ⟨hle, hr⟩ := Pg.ite_some hr
      obtain ⟨_, hr⟩ := Pg.wr_some hr
      obtain ⟨_, rfl⟩ := Prod.mk.inj (Pg.ret_some hr)
      obtain ⟨_, s', hs', _, ha⟩ := hp
      rw [hs] at hs'
      obtain rfl := Option.some.inj hs'
      obtain ⟨ds', b, hc', hval, rfl⟩ := ha hn
      rw [hc] at hc'
      obtain rfl : ds = ds' := by simpa using hc'
      have hg := g1 k s hs
      rw [hc] at hg
      obtain ⟨b', cs, T, F', hval', hb, hl, hcr, hF⟩ := hg
      rw [hval] at hval'
      obtain rfl : b = b' := by simpa using hval'
      refine ⟨b, off, cs, T, rfl, hb, by omega, ?_⟩
      refine h.local hs b _ rfl rfl rfl (by simp) (fun b' hne => setRow_other w b b' _ hne) (by simp [Sl.up1]) (by simp [Sl.up1]) (by simp [Sl.up1]) (fun e => by simp [Sl.up1] at e) (fun _ ds _ => ⟨_, rfl⟩) ?_
      intro Fk hv hF1
      rw [hc] at hv
      obtain ⟨b'', cs', T', G, hval'', hb'', hl', hcr', hFk⟩ := hv
      rw [hval] at hval''
      obtain rfl : b = b'' := by simpa using hval''
      rw [hb] at hb''
      obtain ⟨rfl, rfl⟩ : cs = cs' ∧ T = T' := by simpa using hb''
      refine ⟨by rw [hFk]; simp only [addF, oneF]; simp; omega, fun himm => ?_⟩
      have hGb : G b = 0 := by have := hF1 b; rw [hFk] at this; simp only [addF, oneF_self] at this; omega
      have hFb : F b = 0 := by have := hF1 b; rw [hFk] at this; simp only [addF, oneF_self] at this; omega
      have hsame : ∀ z, G z ≠ 0 ∨ F z ≠ 0 → (w.setRow b (cut3 cs off ys)).heap[z]? = w.heap[z]? := fun z hz => setRow_other w b z _ (fun e => by subst e; omega)
      obtain ⟨G', hG', hcr2⟩ := splice_CRel (p := 0) himm hcr' hle hy (by omega) (CRel.frame (fun _ h => h) himm _ _ _ _ hx fun z hz => hsame z (.inr (by omega))) (fun z hz => hsame z (.inl (by omega)))
      refine ⟨addF (oneF b) G', fun z => by rw [hFk]; have := hG' z; simp only [addF]; omega, fun A' _ => ?_⟩
      rw [Nat.zero_add] at hcr2
      exact ⟨b, _, T, G', hval, setRow_heap w b cs _ T _ hb, by rw [cut3_size _ _ _ (by omega)]; show cs.size = (splice ds off xs).length; rw [splice_length _ _ _ hle]; exact hl, hcr2, rfl⟩
  | el k j st i off n =>
    obtain ⟨s, hs, hr⟩ := Pg.rd_some hr
    obtain ⟨hn, hr⟩ := Pg.ite_some hr
    split at hr
    case h_2 => exact (Pg.fail_some hr).elim
    rename_i wd rows hd
    cases hri : rows[i]? with
    | none => simp only [hri] at hr; exact (Pg.fail_some hr).elim
    | some r =>
      simp only [hri] at hr
      obtain ⟨hle, hr⟩ := Pg.ite_some hr
      obtain ⟨_, hr⟩ := Pg.wr_some hr
      obtain ⟨_, rfl⟩ := Prod.mk.inj (Pg.ret_some hr)
      obtain ⟨_, s', hs', _, ha⟩ := hp
      rw [hs] at hs'
      obtain rfl := Option.some.inj hs'
      obtain ⟨wd', rows', b, o, len, cap, hd', hpv, hlt, rfl⟩ := ha hn
      rw [hd] at hd'
      obtain ⟨rfl, rfl⟩ : wd = wd' ∧ rows = rows' := by simpa using hd'
      -- the block
      have blk : ∀ Fk, VRel c.I w (AR c S a w) s.c (valOf c a k) Fk → (∀ z, Fk z ≤ 1) → ∃ cs T, w.heap[b]? = some (.cells cs T (0, 0)) ∧ o + i * wd + off + ys.length ≤ cs.size ∧ 0 < Fk b ∧ ∀ w' : World, w'.heap[b]? = some (.cells (cut3 cs (o + i * wd + off) ys) T (0, 0)) → (∀ b', b' ≠ b → w'.heap[b']? = w.heap[b']?) → (∀ b', c.I b' → w'.heap[b']? = w.heap[b']?) → F b = 0 → CRel c.I w' (fun k => ys[k]?) xs 0 F →
          ∃ Fk', (∀ z, Fk' z ≤ Fk z + F z) ∧ ∀ A' : D → Value → Prop, (∀ d v, AR c S a w d v → A' d v) → VRel c.I w' A' (plSet s.c j st (.sl true wd (rows.set i (splice r off xs)))) (valOf c a k) Fk' := by
        intro Fk hv hF1
        obtain ⟨x, F1, F2, hx1, hn', hF, hup⟩ := hv.at hF1 hd rfl
        rw [hpv] at hx1
        obtain rfl := Option.some.inj hx1
        have hk : ∀ b, Fk b = F1 b + F2 b := fun b => by rw [hF]; rfl
        obtain ⟨b', o', cap', cs, T, G1, G2, he, hb, hsz, hl, hcr, hF1', hup2⟩ := hn'.row (fun b => by have := hF1 b; have := hk b; omega) hri
        injection he with e1 e2 e3
        injection e1 with e1
        injection e1 with e1 e4 _
        subst e1 e4
        have hF1z : ∀ z, F1 z = oneF b z + (G1 z + G2 z) := fun z => by rw [hF1']; rfl
        have hbb : F1 b = 1 + (G1 b + G2 b) := by rw [hF1z b, oneF_self]
        have hbk := hk b
        have hb1 := hF1 b
        refine ⟨cs, T, hb, by omega, by omega, fun w' hw' hoth himm hFb hx' => ?_⟩
        obtain ⟨G', hG', hcr2⟩ := splice_CRel himm hcr hle hy (by omega) hx' (fun z hz => hoth z (fun e => by subst e; omega))
        have hnn := hup2 w' (cut3 cs (o + i * wd + off) ys) (splice r off xs) G' himm (fun z hz => hoth z (fun e => by subst e; omega)) hw' (cut3_size _ _ _ (by omega))
          (fun k' hk' => cut3_out cs _ ys (by omega) k' (by rcases hk' with h' | h' <;> omega)) (by rw [splice_length _ _ _ hle]; exact hl) hcr2
        refine ⟨addF (addF (oneF b) (addF G' G2)) F2, fun z => ?_, fun A' hA => hup w' A' _ _ himm (fun z hz => hoth z (fun e => by subst e; omega)) hA rfl hnn⟩
        have := hG' z; have := hk z; have := hF1z z; simp only [addF]; omega
      obtain ⟨cs, T, hb, hsz, hpos, _⟩ := blk (Fs k) (g1 k s hs) (fun z => by have := g2 k z; omega)
      refine ⟨b, _, cs, T, rfl, hb, hsz, ?_⟩
      refine h.local hs b _ rfl rfl rfl (by simp) (fun b' hne => setRow_other w b b' _ hne) (by simp [Sl.up0]) (by simp [Sl.up0]) (by simp [Sl.up0]) ?_ ?_ ?_
      · intro _ j' v hcell
        show cellOf _ (plSet s.c j st _) _ j' = some v
        rw [← cellOf_like (like_plSet _ _ _ _)]
        -- a header's cell isn't among those that are stored into
        cases hc : s.c with
        | leaf d => rw [hc] at hcell; exact hcell
        | agg ds => rw [hc] at hcell; cases hva : valOf c a k <;> rw [hva] at hcell <;> exact hcell
        | box ds =>
          rw [hc] at hcell
          have hg := g1 k s hs
          have hFk := hpos
          rw [hc] at hg
          obtain ⟨b', cs', T', F', hval', hb', hl', hcr', hF'⟩ := hg
          have hne : b' ≠ b := own_in_box (by rw [← hc]; exact g1 k s hs) (fun z => by have := g2 k z; omega) (by rw [← hc]; exact hd) (by rw [← hc]; exact hpv) hlt hval'
          rw [hval'] at hcell ⊢
          simp only [cellOf, hb'] at hcell
          simp only [cellOf, setRow_other w b b' _ hne, hb']
          exact hcell
      · intro _ ds hds
        simp only [Sl.up0, plSet, hds, V.setCell]; exact ⟨_, rfl⟩
      · intro Fk hv hF1
        obtain ⟨cs', T', hb', hsz', hpos', hup⟩ := blk Fk hv (fun z => by have := hF1 z; omega)
        rw [hb] at hb'
        obtain ⟨rfl, rfl⟩ : cs = cs' ∧ T = T' := by simpa using hb'
        refine ⟨hpos', fun himm => ?_⟩
        have hFb : F b = 0 := by have := hF1 b; omega
        exact hup _ (setRow_heap w b cs _ T _ hb) (fun b' hne => setRow_other w b b' _ hne) himm hFb (CRel.frame (fun _ h => h) himm _ _ _ _ hx fun z hz => setRow_other w b z _ (fun e => by subst e; omega))
  | _ => exact (Pg.fail_some hr).elim
end
end Go.Proofs.Vai

namespace Go.Proofs.Vai
open Go

section
variable {P : Program} {ioF : Nat → Option Nat} {E : CallF} {c : Cx} {S S' : St} {o : Oper} {a : Act} {w : World} {u : Unit} {vs : List Nat}

theorem firm_one {I : Nat → Prop} {d : D} {v : Value} {F : Fp} (hk : firm d = true) (h : NRel I w d v F) : v.oneCell' = true := by
  cases d with
  | i k n => simp only [NRel] at h; obtain ⟨rfl, _⟩ := h; rfl
  | b t => simp only [NRel] at h; obtain ⟨rfl, _⟩ := h; rfl
  | s t => simp only [NRel] at h; obtain ⟨rfl, _⟩ := h; rfl
  | nilp => simp only [NRel] at h; obtain ⟨rfl, _⟩ := h; rfl
  | sl o wd els =>
    cases o with
    | true => simp only [NRel] at h; obtain ⟨_, _, rfl, _⟩ := h; rfl
    | false => simp only [NRel] at h; obtain ⟨_, _, _, rfl, _⟩ := h; rfl
  | pt cells => simp only [NRel] at h; obtain ⟨_, _, _, _, _, _, rfl, _⟩ := h; rfl
  | fn f caps => simp only [NRel] at h; obtain ⟨_, _, rfl, _⟩ := h; rfl
  | mp es => simp only [NRel] at h; obtain ⟨_, _, _, rfl, _⟩ := h; rfl
  | und => simp [firm] at hk
  | dead => simp [firm] at hk
  | al k j st n => simp [firm, flat] at hk
  | bp k off n => simp [firm, flat] at hk
  | el k j st i off n => simp [firm, flat] at hk
theorem firm_all {I : Nat → Prop} {g : Nat → Option Value} : ∀ {ds : List D} {o : Nat} {F : Fp}, CRel I w g ds o F → ds.all firm = true → ∀ i, i < ds.length → ∃ v, g (o + i) = some v ∧ v.oneCell' = true
  | [], o, F, h, _, i, hi => by simp at hi
  | d :: ds, o, F, h, hf, i, hi => by
    simp only [CRel] at h
    obtain ⟨x, F1, F2, hx, h1, h2, rfl⟩ := h
    simp only [List.all_cons, Bool.and_eq_true] at hf
    cases i with
    | zero => exact ⟨x, hx, firm_one hf.1 h1⟩
    | succ i =>
      obtain ⟨v, hv, h3⟩ := firm_all h2 hf.2 i (by simpa using hi)
      exact ⟨v, by rw [← hv]; congr 1; omega, h3⟩
theorem und_rel {I : Nat → Prop} {A : D → Value → Prop} : VRel I w A (.leaf .und) undef zF := by
  have : NRel I w .und undef zF := by unfold NRel; exact ⟨rfl, rfl⟩
  exact TRel_of_N (A := A) this
theorem ok_store {t : TypeId} {p x : Operand} {pa y : X} {m : Nat} (ho : o.op = .store t p x) (hm : szT P t = some m) (hp : cX P c.n 0 p = some pa) (hc : cX P c.n t x = some y) (h : SR c zF S a w) (hd : dstOk c o.dst) (hr : (stepO E o.dst vs (.store m pa y)).run S = some (u, S')) : OpGoal P c S' o a w := by
  obtain ⟨v, S1, h1, h2⟩ := Pg.bind_some hr
  obtain ⟨d, S2, h3, h4⟩ := Pg.bind_some h2
  obtain ⟨hcond, h4⟩ := Pg.ite_some h4
  obtain ⟨_, S3, h5, h6⟩ := Pg.bind_some h4
  simp only [Bool.and_eq_true, beq_iff_eq] at hcond
  obtain ⟨⟨hk, hlen⟩, hfirm⟩ := hcond
  obtain ⟨F, hsr, hvn, _⟩ := takeV_ok h h1 (cX_ok hc)
  obtain ⟨rfl, ht⟩ := getD_ok hsr h3 (cX_ok hp)
  obtain ⟨hl, hcr⟩ := okc_cells hk hvn
  have hcr' : CRel c.I w (fun k => (a.eval x).cells.toList[k]?) v.data 0 F := by simpa using hcr
  obtain ⟨b, off, cs, T, hpv, hg, hsz, hsr2⟩ := storeP_ok hsr h5 ht (by simpa using hl) hcr'
  have hrun : (execOp a.eval o).run P w = .ok .skip (w.setRow b (cut3 cs off (a.eval x).cells.toList)) := by
    simp only [execOp, ho, Instr.storeAt, hpv, Instr.sureAddr, Sem.run_bind, Sem.run_pure, Result.andThen_ok, storeVar, run_size hm]
    rw [if_neg (by rw [hl, hlen]; simp)]
    have := run_storeCells_at (P := P) b off T (a.eval x).cells.toList 0 cs w hg (by simpa using hsz) (fun z hz => by
      obtain ⟨i, hi, rfl⟩ := List.getElem_of_mem hz
      obtain ⟨v', hv', h1⟩ := firm_all hcr' hfirm i (by rw [← hl]; simpa using hi)
      simp only [Nat.zero_add, List.getElem?_eq_getElem hi] at hv'
      obtain rfl := Option.some.inj hv'
      exact h1)
    simp only [Nat.add_zero] at this
    simp only [this, Result.andThen_ok]
    rfl
  exact .skip hrun (hsr2.putZ hd h6 und_rel)
theorem live_ok {d : D} (hr : (live d).run S = some (u, S')) : S' = S ∧ match d with
    | .bp k _ n => ∃ s, S[k]? = some s ∧ n = s.x
    | .el k _ _ _ _ n => ∃ s, S[k]? = some s ∧ n = s.e
    | .pt _ | .nilp | .b _ => True
    | _ => False := by
  cases d with
  | bp k off n =>
    obtain ⟨s, hs, hr⟩ := Pg.rd_some hr
    obtain ⟨hn, hr⟩ := Pg.ite_some hr
    obtain ⟨_, rfl⟩ := Prod.mk.inj (Pg.ret_some hr)
    exact ⟨rfl, s, hs, hn⟩
  | el k j st i off n =>
    obtain ⟨s, hs, hr⟩ := Pg.rd_some hr
    obtain ⟨hn, hr⟩ := Pg.ite_some hr
    obtain ⟨_, rfl⟩ := Prod.mk.inj (Pg.ret_some hr)
    exact ⟨rfl, s, hs, hn⟩
  | pt cells => obtain ⟨_, rfl⟩ := Prod.mk.inj (Pg.ret_some hr); exact ⟨rfl, trivial⟩
  | nilp => obtain ⟨_, rfl⟩ := Prod.mk.inj (Pg.ret_some hr); exact ⟨rfl, trivial⟩
  | b t => obtain ⟨_, rfl⟩ := Prod.mk.inj (Pg.ret_some hr); exact ⟨rfl, trivial⟩
  | _ => exact (Pg.fail_some hr).elim
theorem live_ptr {d : D} {v : Value} {F : Fp} (hr : (live d).run S = some (u, S')) (hp : isPtr d = true) (ht : TRel c.I w (AR c S a w) d v F) : ∃ b off, v = .pointer (some ⟨b, off, none⟩) := by
  obtain ⟨_, hl⟩ := live_ok hr
  cases d with
  | bp k off n =>
    obtain ⟨s, hs, hn⟩ := hl
    obtain ⟨_, s', hs', _, ha⟩ := ht
    rw [hs] at hs'
    obtain rfl := Option.some.inj hs'
    obtain ⟨ds, b, _, _, rfl⟩ := ha hn
    exact ⟨_, _, rfl⟩
  | el k j st i off n =>
    obtain ⟨s, hs, hn⟩ := hl
    obtain ⟨_, s', hs', _, ha⟩ := ht
    rw [hs] at hs'
    obtain rfl := Option.some.inj hs'
    obtain ⟨wd, rows, b, o, len, cap, _, _, _, rfl⟩ := ha hn
    exact ⟨_, _, rfl⟩
  | pt cells =>
    have ht := (TRel_plain (d := .pt cells) rfl).1 ht
    simp only [NRel] at ht
    obtain ⟨_, b, o, _, _, _, rfl, _⟩ := ht
    exact ⟨_, _, rfl⟩
  | _ => simp [isPtr] at hp
theorem ok_nilck {x : Operand} {y : X} (ho : o.op = .nilCheck x) (hc : cX P c.n 0 x = some y) (h : SR c zF S a w) (hd : dstOk c o.dst) (hr : (stepO E o.dst vs (.nilck y)).run S = some (u, S')) : OpGoal P c S' o a w := by
  obtain ⟨d, S1, h1, h2⟩ := Pg.bind_some hr
  obtain ⟨hp, h2⟩ := Pg.ite_some h2
  obtain ⟨_, S2, h3, h4⟩ := Pg.bind_some h2
  obtain ⟨rfl, ht⟩ := getD_ok h h1 (cX_ok hc)
  obtain ⟨b, off, hv⟩ := live_ptr h3 hp ht
  obtain ⟨rfl, _⟩ := live_ok h3
  exact .value (w' := w) (v := a.eval x) (by simp [execOp, ho, hv]) (h.putZ hd h4 ht)
theorem plain_val {d : D} {v : Value} {F : Fp} {A : D → Value → Prop} (h : TRel c.I w A d v F) (hp : outAl d = false) : NRel c.I w d v F := (TRel_plain hp).1 h
theorem NRel_i {I : Nat → Prop} (k : IntKind) (n : Int) : NRel I w (.i k n) (.int k n) zF := by unfold NRel; exact ⟨rfl, rfl⟩
theorem NRel_b {I : Nat → Prop} (t : Bool) : NRel I w (.b t) (.bool t) zF := by unfold NRel; exact ⟨rfl, rfl⟩
theorem NRel_s {I : Nat → Prop} (t : ByteArray) : NRel I w (.s t) (.string t) zF := by unfold NRel; exact ⟨rfl, rfl⟩
theorem binI_ok {op : BinOp} {k : IntKind} {x y : Int} {d : D} (h : binI op k x y = some d) (t : TypeId) : ∃ v, (binOp op t (.int k x) (.int k y)).run P w = .ok v w ∧ ∀ I, NRel I w d v zF := by
  cases op <;> simp only [binI] at h
  case add => obtain rfl := Option.some.inj h; exact ⟨_, by simp [binOp, Op.intArith], fun I => NRel_i _ _⟩
  case sub => obtain rfl := Option.some.inj h; exact ⟨_, by simp [binOp, Op.intArith], fun I => NRel_i _ _⟩
  case mul => obtain rfl := Option.some.inj h; exact ⟨_, by simp [binOp, Op.intArith], fun I => NRel_i _ _⟩
  case quo =>
    split at h
    · simp at h
    · rename_i hy; obtain rfl := Option.some.inj h; exact ⟨_, by simp [binOp, Op.intDiv, hy], fun I => NRel_i _ _⟩
  case rem =>
    split at h
    · simp at h
    · rename_i hy; obtain rfl := Option.some.inj h; exact ⟨_, by simp [binOp, Op.intDiv, hy], fun I => NRel_i _ _⟩
  case and => obtain rfl := Option.some.inj h; exact ⟨_, by simp [binOp, Op.intBits, bitsD], fun I => NRel_i _ _⟩
  case or => obtain rfl := Option.some.inj h; exact ⟨_, by simp [binOp, Op.intBits, bitsD], fun I => NRel_i _ _⟩
  case xor => obtain rfl := Option.some.inj h; exact ⟨_, by simp [binOp, Op.intBits, bitsD], fun I => NRel_i _ _⟩
  case andNot => obtain rfl := Option.some.inj h; exact ⟨_, by simp [binOp, Op.intBits, bitsD], fun I => NRel_i _ _⟩
  case eql => obtain rfl := Option.some.inj h; exact ⟨_, by simp [binOp, Op.intCmp], fun I => NRel_b _⟩
  case neq => obtain rfl := Option.some.inj h; exact ⟨_, by simp [binOp, Op.intCmp], fun I => NRel_b _⟩
  case lss => obtain rfl := Option.some.inj h; exact ⟨_, by simp [binOp, Op.intCmp], fun I => NRel_b _⟩
  case leq => obtain rfl := Option.some.inj h; exact ⟨_, by simp [binOp, Op.intCmp], fun I => NRel_b _⟩
  case gtr => obtain rfl := Option.some.inj h; exact ⟨_, by simp [binOp, Op.intCmp], fun I => NRel_b _⟩
  case geq => obtain rfl := Option.some.inj h; exact ⟨_, by simp [binOp, Op.intCmp], fun I => NRel_b _⟩
  all_goals simp at h
theorem binS_ok {op : BinOp} {x y : ByteArray} {d : D} (h : binS op x y = some d) (t : TypeId) : ∃ v, (binOp op t (.string x) (.string y)).run P w = .ok v w ∧ ∀ I, NRel I w d v zF := by
  cases op <;> simp only [binS] at h
  case add =>
    split at h
    · rename_i hle
      obtain rfl := Option.some.inj h
      refine ⟨_, ?_, fun I => NRel_s _⟩
      have : ¬ (((x.size + y.size : Nat) : Int) > IntKind.i64.max) := by unfold LIM at hle; simp [IntKind.max, IntKind.bits]; omega
      simp only [binOp, Op.stringOp, if_neg this]; rfl
    · simp at h
  case eql => obtain rfl := Option.some.inj h; exact ⟨_, by simp [binOp, Op.stringOp], fun I => NRel_b _⟩
  case neq => obtain rfl := Option.some.inj h; exact ⟨_, by simp [binOp, Op.stringOp], fun I => NRel_b _⟩
  case lss => obtain rfl := Option.some.inj h; exact ⟨_, by simp [binOp, Op.stringOp], fun I => NRel_b _⟩
  case leq => obtain rfl := Option.some.inj h; exact ⟨_, by simp [binOp, Op.stringOp], fun I => NRel_b _⟩
  case gtr => obtain rfl := Option.some.inj h; exact ⟨_, by simp [binOp, Op.stringOp], fun I => NRel_b _⟩
  case geq => obtain rfl := Option.some.inj h; exact ⟨_, by simp [binOp, Op.stringOp], fun I => NRel_b _⟩
  all_goals simp at h
end
end Go.Proofs.Vai

namespace Go.Proofs.Vai
open Go

section
variable {P : Program} {ioF : Nat → Option Nat} {E : CallF} {c : Cx} {S S' : St} {o : Oper} {a : Act} {w : World} {u : Unit} {vs : List Nat}

theorem VR_N {I : Nat → Prop} {A : D → Value → Prop} {d : D} {v : Value} {F : Fp} (h : NRel I w d v F) : VRel I w A (.leaf d) v F := TRel_of_N (A := A) h
theorem VR_i {I : Nat → Prop} {A : D → Value → Prop} (k : IntKind) (n : Int) : VRel I w A (.leaf (.i k n)) (.int k n) zF := VR_N (NRel_i k n)
theorem VR_b {I : Nat → Prop} {A : D → Value → Prop} (t : Bool) : VRel I w A (.leaf (.b t)) (.bool t) zF := VR_N (NRel_b t)
theorem VR_s {I : Nat → Prop} {A : D → Value → Prop} (t : ByteArray) : VRel I w A (.leaf (.s t)) (.string t) zF := VR_N (NRel_s t)
theorem val_i {d : Value} {k : IntKind} {n : Int} {A : D → Value → Prop} {F : Fp} (h : TRel c.I w A (.i k n) d F) : d = .int k n := by
  have := (TRel_plain (d := .i k n) rfl).1 h
  unfold NRel at this; exact this.1
theorem val_b {d : Value} {t : Bool} {A : D → Value → Prop} {F : Fp} (h : TRel c.I w A (.b t) d F) : d = .bool t := by
  have := (TRel_plain (d := .b t) rfl).1 h
  unfold NRel at this; exact this.1
theorem val_s {d : Value} {t : ByteArray} {A : D → Value → Prop} {F : Fp} (h : TRel c.I w A (.s t) d F) : d = .string t := by
  have := (TRel_plain (d := .s t) rfl).1 h
  unfold NRel at this; exact this.1
theorem val_nilp {d : Value} {A : D → Value → Prop} {F : Fp} (h : TRel c.I w A .nilp d F) : d = .pointer none := by
  have := (TRel_plain (d := .nilp) rfl).1 h
  unfold NRel at this; exact this.1
theorem shI_ok {op : BinOp} {k k' : IntKind} {x y : Int} {d : D} (h : shI op k x y = some d) (ho : op = .shl ∨ op = .shr) (t : TypeId) : ∃ v, (binOp op t (.int k x) (.int k' y)).run P w = .ok v w ∧ ∀ I, NRel I w d v zF := by
  unfold shI at h
  split at h
  · simp at h
  · rename_i hy
    rcases ho with rfl | rfl
    · obtain rfl := Option.some.inj h
      exact ⟨_, by simp [binOp, Op.shift, hy], fun I => NRel_i _ _⟩
    · obtain rfl := Option.some.inj h
      exact ⟨_, by simp [binOp, Op.shift, hy], fun I => NRel_i _ _⟩
theorem binD_ok {op : BinOp} {x y d : D} (h : binD op x y = some d) {vx vy : Value} {A : D → Value → Prop} {F G : Fp} (hx : TRel c.I w A x vx F) (hy : TRel c.I w A y vy G) (t : TypeId) (xo yo : Operand) :
    ∃ v, (eqGuard op t xo yo vx vy).run P w = .ok () w ∧ (binOp op t vx vy).run P w = .ok v w ∧ ∀ I, NRel I w d v zF := by
  unfold binD at h
  split at h
  · rename_i k n k' m
    rw [val_i hx, val_i hy]
    have hg : (eqGuard op t xo yo (.int k n) (.int k' m)).run P w = .ok () w := by
      unfold eqGuard; cases op <;> rfl
    split at h
    · obtain ⟨v, h1, h2⟩ := shI_ok (P := P) (w := w) (k' := k') h (.inl rfl) t; exact ⟨v, hg, h1, h2⟩
    · obtain ⟨v, h1, h2⟩ := shI_ok (P := P) (w := w) (k' := k') h (.inr rfl) t; exact ⟨v, hg, h1, h2⟩
    · split at h
      · rename_i e; subst e
        obtain ⟨v, h1, h2⟩ := binI_ok (P := P) (w := w) h t
        exact ⟨v, hg, h1, h2⟩
      · simp at h
  · rename_i p q
    rw [val_s hx, val_s hy]
    have hg : (eqGuard op t xo yo (.string p) (.string q)).run P w = .ok () w := by
      unfold eqGuard; cases op <;> rfl
    obtain ⟨v, h1, h2⟩ := binS_ok (P := P) (w := w) h t
    exact ⟨v, hg, h1, h2⟩
  · simp at h
theorem ok_bin {op : BinOp} {t yt : TypeId} {x y : Operand} {xa ya : X} (ho : o.op = .binOp op t x y yt) (hx : cX P c.n t x = some xa) (hy : cX P c.n yt y = some ya) (h : SR c zF S a w) (hd : dstOk c o.dst) (hr : (stepO E o.dst vs (.bin op xa ya)).run S = some (u, S')) : OpGoal P c S' o a w := by
  obtain ⟨d1, S1, h1, h2⟩ := Pg.bind_some hr
  obtain ⟨d2, S2, h3, h4⟩ := Pg.bind_some h2
  obtain ⟨d, S3, h5, h6⟩ := Pg.bind_some h4
  obtain ⟨rfl, t1⟩ := getD_ok h h1 (cX_ok hx)
  obtain ⟨rfl, t2⟩ := getD_ok h h3 (cX_ok hy)
  obtain ⟨hb, e⟩ := Pg.ofOpt_some h5
  subst e
  obtain ⟨v, g1, g2, g3⟩ := binD_ok (P := P) hb t1 t2 t x y
  refine .value (v := v) (w' := w) ?_ (h.putZ hd h6 (VR_N (g3 _)))
  simp only [execOp, ho, Sem.run_bind, g1, g2, Result.andThen_ok, Sem.run_pure]
theorem ok_un {op : UnOp} {t : TypeId} {x : Operand} {xa : X} (ho : o.op = .unOp op t x) (hx : cX P c.n 0 x = some xa) (h : SR c zF S a w) (hd : dstOk c o.dst) (hr : (stepO E o.dst vs (.un op xa)).run S = some (u, S')) : OpGoal P c S' o a w := by
  obtain ⟨d1, S1, h1, h2⟩ := Pg.bind_some hr
  obtain ⟨d, S3, h5, h6⟩ := Pg.bind_some h2
  obtain ⟨rfl, t1⟩ := getD_ok h h1 (cX_ok hx)
  obtain ⟨hb, e⟩ := Pg.ofOpt_some h5
  subst e
  simp only at hb h6
  unfold unD at hb
  split at hb
  · rename_i k n
    obtain rfl := Option.some.inj hb
    refine .value (v := .int k (k.wrap (0 - n))) (w' := w) ?_ (h.putZ hd h6 (VR_i _ _))
    simp only [execOp, ho, val_i t1, Op.unary, Op.intArith, Sem.run_bind, Result.andThen_ok, Sem.run_pure]
  · rename_i t'
    obtain rfl := Option.some.inj hb
    refine .value (v := .bool !t') (w' := w) ?_ (h.putZ hd h6 (VR_b _))
    simp only [execOp, ho, val_b t1, Op.unary, Sem.run_bind, Result.andThen_ok, Sem.run_pure]
  · simp at hb
theorem ok_conv {s d : TypeId} {x : Operand} {xa : X} {ks k : IntKind} (ho : o.op = .convert s d x) (hs : P.underlying s = some (.int ks)) (hdd : P.underlying d = some (.int k)) (hx : cX P c.n s x = some xa) (h : SR c zF S a w) (hd : dstOk c o.dst) (hr : (stepO E o.dst vs (.conv k xa)).run S = some (u, S')) : OpGoal P c S' o a w := by
  obtain ⟨d1, S1, h1, h2⟩ := Pg.bind_some hr
  obtain ⟨rfl, t1⟩ := getD_ok h h1 (cX_ok hx)
  split at h2
  · rename_i k' n
    refine .value (v := .int k (k.wrap n)) (w' := w) ?_ (h.putZ hd h2 (VR_i _ _))
    simp only [execOp, ho, val_i t1, convert, Sem.run_bind, run_under hs, run_under hdd, Result.andThen_ok, Conv.intToInt, Sem.run_pure]
  · exact (Pg.fail_some h2).elim
theorem getDs_ok : ∀ {xs : List X} {ds : List D} {S S' : St}, SR c zF S a w → (getDs xs).run S = some (ds, S') → (∀ x, x ∈ xs → ∃ v, XV c a x v) → S' = S ∧ ds.length = xs.length ∧ ∀ (j : Nat) (x : X) (d : D) (v : Value), xs[j]? = some x → ds[j]? = some d → XV c a x v → TRel c.I w (AR c S a w) d v zF
  | [], ds, S, S', h, hr, hx => by
    obtain ⟨rfl, rfl⟩ := Prod.mk.inj (Pg.ret_some hr)
    exact ⟨rfl, rfl, fun j x d v hj => by simp at hj⟩
  | x :: xs, ds, S, S', h, hr, hx => by
    obtain ⟨d, S1, h1, h2⟩ := Pg.bind_some hr
    obtain ⟨ds', S2, h3, h4⟩ := Pg.bind_some h2
    obtain ⟨rfl, rfl⟩ := Prod.mk.inj (Pg.ret_some h4)
    obtain ⟨v0, hv0⟩ := hx x List.mem_cons_self
    obtain ⟨rfl, _⟩ := getD_ok h h1 hv0
    obtain ⟨rfl, l1, ht⟩ := getDs_ok h h3 fun y hy => hx y (List.mem_cons_of_mem _ hy)
    refine ⟨rfl, by simp [l1], fun j y e v hj he hv => ?_⟩
    cases j with
    | zero => simp at hj he; subst hj he; exact (getD_ok h h1 hv).2
    | succ j => exact ht j y e v (by simpa using hj) (by simpa using he) hv
theorem XVs.mem {xs : List X} {vals : Array Value} (h : XVs c a xs vals) : ∀ x, x ∈ xs → ∃ v, XV c a x v := fun x hx => by
  obtain ⟨j, hj, rfl⟩ := List.getElem_of_mem hx
  obtain ⟨v, _, hv⟩ := h.2 j _ (List.getElem?_eq_getElem hj)
  exact ⟨v, hv⟩
theorem ok_mkfn {f : Nat} {first caps : Array Operand} {xs : List X} (ho : o.op = .makeFunc (.func f) first caps) (hf : first.isEmpty = true) (hx : cXs P c.n [] caps.toList = some xs) (h : SR c zF S a w) (hd : dstOk c o.dst) (hr : (stepO E o.dst vs (.mkfn f xs)).run S = some (u, S')) : OpGoal P c S' o a w := by
  obtain ⟨ds, S1, h1, h2⟩ := Pg.bind_some hr
  obtain ⟨hall, h2⟩ := Pg.ite_some h2
  have hxs := cXs_XVs (c := c) (a := a) hx
  obtain ⟨rfl, l1, ht⟩ := getDs_ok h h1 hxs.mem
  have hfe : first = #[] := by simpa using hf
  refine .value (v := .func (.func f) #[] (caps.map a.eval)) (w' := w) (by simp [execOp, ho, hfe, Instr.makeFunc]) (h.putZ hd h2 ?_)
  refine ⟨rfl, _, rfl, by rw [hxs.1, l1], fun j e x he hxv => ?_⟩
  obtain ⟨y, hy⟩ : ∃ y, xs[j]? = some y := ⟨xs[j]'(by have := lt_of_get he; omega), by simp⟩
  obtain ⟨v, hv, hxv'⟩ := hxs.2 j y hy
  rw [hxv] at hv
  obtain rfl := Option.some.inj hv
  have := ht j y e x hy he hxv'
  have hnf := List.all_eq_true.1 hall e (List.mem_of_getElem? he)
  cases e <;> first | exact this.2 | exact plain_val this rfl | (simp at hnf)
theorem ok_mkmap {t : TypeId} (ho : o.op = .makeMap t none) (h : SR c zF S a w) (hd : dstOk c o.dst) (hr : (stepO E o.dst vs .mkmap).run S = some (u, S')) : OpGoal P c S' o a w := by
  have h' := h.alloc (.map #[] 0)
  refine .value (v := .map (some w.heap.size)) (w' := w.alloc (.map #[] 0)) ?_ (h'.putF hd hr ?_)
  · simp only [execOp, ho, Instr.makeMap, Option.map_none, Sem.run_bind, run_newObj, Result.andThen_ok, Sem.run_pure]; rfl
  · have : NRel c.I (w.alloc (.map #[] 0)) (.mp []) (.map (some w.heap.size)) (oneF w.heap.size) := by
      unfold NRel
      refine ⟨_, #[], 0, rfl, ?_, rfl, rfl⟩
      show (w.heap.push _)[w.heap.size]? = _
      simp
    exact TRel_of_N (A := AR c S a (w.alloc (.map #[] 0))) this
theorem ok_faddr {t : TypeId} {x : Operand} {xa : X} {i : Nat} {fs : Array Field} {f : Field} {m : Nat} (ho : o.op = .fieldAddr t x i) (hu : P.underlying t = some (.struct fs)) (hf : fs[i]? = some f) (hm : szT P f.type = some m) (hm0 : 0 < m) (hx : cX P c.n 0 x = some xa) (h : SR c zF S a w) (hd : dstOk c o.dst) (hr : (stepO E o.dst vs (.faddr f.offset xa)).run S = some (u, S')) : OpGoal P c S' o a w := by
  obtain ⟨d, S1, h1, h2⟩ := Pg.bind_some hr
  obtain ⟨_, S2, h3, h4⟩ := Pg.bind_some h2
  obtain ⟨v, S3, h5, h6⟩ := Pg.bind_some h4
  obtain ⟨rfl, t1⟩ := getD_ok h h1 (cX_ok hx)
  obtain ⟨rfl, hl⟩ := live_ok h3
  have run : ∀ b off, a.eval x = .pointer (some ⟨b, off, none⟩) → (execOp a.eval o).run P w = .ok (.value (.pointer (some ⟨b, off + f.offset, none⟩))) w := by
    intro b off hv
    simp only [execOp, ho, hv, Instr.fieldAt, Sem.run_bind, run_under hu, Result.andThen_ok, hf, Instr.sureAddr, Sem.run_pure, fieldPlace, run_size hm]
    rw [if_neg (by omega)]
    simp [addr_add]
  cases d with
  | bp k off n =>
    obtain ⟨rfl, rfl⟩ := Prod.mk.inj (Pg.ret_some h5)
    obtain ⟨s, hs, hn⟩ := hl
    obtain ⟨_, s', hs', hle, ha⟩ := t1
    rw [hs] at hs'
    obtain rfl := Option.some.inj hs'
    obtain ⟨ds, b, hc, hval, hv⟩ := ha hn
    exact .value (run b off hv) (h.putZ hd h6 ⟨rfl, s, hs, hle, fun _ => ⟨ds, b, hc, hval, rfl⟩⟩)
  | el k j st i off n =>
    obtain ⟨rfl, rfl⟩ := Prod.mk.inj (Pg.ret_some h5)
    obtain ⟨s, hs, hn⟩ := hl
    obtain ⟨_, s', hs', hle, ha⟩ := t1
    rw [hs] at hs'
    obtain rfl := Option.some.inj hs'
    obtain ⟨wd, rows, b, o', len, cap, q1, q2, q3, hv⟩ := ha hn
    exact .value (run b _ hv) (h.putZ hd h6 ⟨rfl, s, hs, hle, fun _ => ⟨wd, rows, b, o', len, cap, q1, q2, q3, by rw [Nat.add_assoc]⟩⟩)
  | pt cells =>
    obtain ⟨hle, h5⟩ := Pg.ite_some h5
    obtain ⟨rfl, rfl⟩ := Prod.mk.inj (Pg.ret_some h5)
    have hp := plain_val t1 rfl
    unfold NRel at hp
    obtain ⟨_, b, off, cs, T, fr, hv, hI, hb, hcr⟩ := hp
    refine .value (run b off hv) (h.putZ hd h6 ?_)
    obtain ⟨F1, F2, hdr, hz⟩ := hcr.drop f.offset hle
    have hz2 : F2 = zF := by funext z; have := congrFun hz z; simp only [addF, zF] at this ⊢; omega
    subst hz2
    have : NRel c.I w (.pt (cells.drop f.offset)) (.pointer (some ⟨b, off + f.offset, none⟩)) zF := by
      unfold NRel
      exact ⟨rfl, b, _, cs, T, fr, rfl, hI, hb, hdr⟩
    exact VR_N this
  | _ => exact (Pg.fail_some h5).elim
theorem extract_drop (cs : Array Value) (off m : Nat) : cs.extract off (off + m) = ((cs.toList.drop off).take m).toArray := by
  apply Array.ext'
  simp [Array.toList_extract, List.extract_eq_take_drop]
theorem run_part {t : TypeId} {ag : Bool} {m off : Nat} {cs : Array Value} (ha : aggT P t = some ag) (hm : szT P t = some m) (hs : off + m ≤ cs.size) (h1 : ag = false → m = 1) :
    (part t cs off).run P w = .ok (if ag then .agg ((cs.toList.drop off).take m).toArray else ((cs.toList.drop off).take m).headD undef) w := by
  simp only [part, Sem.run_bind, run_agg ha, Result.andThen_ok]
  cases ag with
  | true => simp only [if_true, Sem.run_bind, run_size hm, Result.andThen_ok, Sem.run_pure, extract_drop]
  | false =>
    obtain rfl := h1 rfl
    have hlt : off < cs.size := by omega
    simp only [Bool.false_eq_true, if_false, Array.getElem?_eq_getElem hlt, Sem.run_pure]
    congr 1
    have : (cs.toList.drop off).take 1 = [cs[off]] := by
      rw [List.drop_eq_getElem_cons (by simpa using hlt)]; simp
    rw [this]; rfl
theorem TCRel.mid {I : Nat → Prop} {A : D → Value → Prop} {g : Nat → Option Value} {ds : List D} {o : Nat} {F : Fp} (h : TCRel I w A g ds o F) (off m : Nat) (hm : off + m ≤ ds.length) : ∃ F2, TCRel I w A g ((ds.drop off).take m) (o + off) F2 := by
  have dropT : ∀ (n : Nat) (ds : List D) (o : Nat) (F : Fp), TCRel I w A g ds o F → n ≤ ds.length → ∃ F2, TCRel I w A g (ds.drop n) (o + n) F2 := by
    intro n
    induction n with
    | zero => intro ds o F h _; exact ⟨F, by simpa using h⟩
    | succ n ih =>
      intro ds o F h hl
      cases ds with
      | nil => simp at hl
      | cons d ds =>
        obtain ⟨x, F1, F2, hx, h1, h2, rfl⟩ := h
        obtain ⟨G, hG⟩ := ih ds (o + 1) F2 h2 (by simpa using hl)
        exact ⟨G, by rw [show o + (n + 1) = o + 1 + n from by omega]; exact hG⟩
  have takeT : ∀ (n : Nat) (ds : List D) (o : Nat) (F : Fp), TCRel I w A g ds o F → ∃ F2, TCRel I w A g (ds.take n) o F2 := by
    intro n
    induction n with
    | zero => intro ds o F h; exact ⟨zF, by simp only [List.take_zero]; rfl⟩
    | succ n ih =>
      intro ds o F h
      cases ds with
      | nil => exact ⟨F, h⟩
      | cons d ds =>
        obtain ⟨x, F1, F2, hx, h1, h2, rfl⟩ := h
        obtain ⟨G, hG⟩ := ih ds (o + 1) F2 h2
        exact ⟨addF F1 G, x, F1, G, hx, h1, hG, rfl⟩
  obtain ⟨G, hG⟩ := dropT off ds o F h (by omega)
  exact takeT m _ _ G hG
theorem TCRel.shift {I : Nat → Prop} {A : D → Value → Prop} {g g2 : Nat → Option Value} : ∀ {ds : List D} {o o2 : Nat} {F : Fp}, TCRel I w A g ds o F → (∀ i, i < ds.length → g2 (o2 + i) = g (o + i)) → TCRel I w A g2 ds o2 F
  | [], o, o2, F, h, _ => h
  | d :: ds, o, o2, F, h, hg => by
    obtain ⟨x, F1, F2, hx, h1, h2, rfl⟩ := h
    have h0 := hg 0 (by simp)
    simp only [Nat.add_zero] at h0
    exact ⟨x, F1, F2, h0.trans hx, h1, TCRel.shift h2 fun i hi => by
      have := hg (i + 1) (by simpa using hi)
      rwa [show o2 + 1 + i = o2 + (i + 1) from by omega, show o + 1 + i = o + (i + 1) from by omega], rfl⟩
theorem ok_field {t : TypeId} {x : Operand} {xa : X} {i : Nat} {fs : Array Field} {f : Field} {ag : Bool} {m : Nat} (ho : o.op = .field t x i) (hu : P.underlying t = some (.struct fs)) (hf : fs[i]? = some f) (hag : aggT P f.type = some ag) (hm : szT P f.type = some m) (hx : cX P c.n t x = some xa) (h : SR c zF S a w) (hd : dstOk c o.dst)
    (hr : (stepO E o.dst vs (.field ag f.offset m xa)).run S = some (u, S')) : OpGoal P c S' o a w := by
  cases xa with
  | c v => exact (Pg.fail_some hr).elim
  | t n =>
    obtain ⟨s, hs, hr⟩ := Pg.rd_some hr
    cases hc : s.c with
    | leaf _ => simp only [hc] at hr; exact (Pg.fail_some hr).elim
    | box _ => simp only [hc] at hr; exact (Pg.fail_some hr).elim
    | agg ds =>
      simp only [hc] at hr
      obtain ⟨hle, hr⟩ := Pg.ite_some hr
      obtain ⟨v, S1, h1, h2⟩ := Pg.bind_some hr
      obtain ⟨Fs, g1, _⟩ := h.slots
      have hv := g1 n s hs
      rw [hc] at hv
      obtain ⟨cs, hval, hl, ht⟩ := hv
      have hx' : a.eval x = .agg cs := by have : a.eval x = valOf c a n := cX_ok hx; rw [this, hval]
      have hlen : ((cs.toList.drop f.offset).take m).length = m := by simp; omega
      have hlen2 : ((ds.drop f.offset).take m).length = m := by simp; omega
      obtain ⟨F2, hmid⟩ := ht.mid f.offset m hle
      have hgv : ∀ i', i' < m → ((cs.toList.drop f.offset).take m)[i']? = cs[f.offset + i']? := fun i' hi' => by
        rw [List.getElem?_take_of_lt hi', List.getElem?_drop]; simp
      have hdup := TCRel.dup (j := f.offset) hs (hmid.shift (g2 := fun j => ((cs.toList.drop f.offset).take m)[j]?) (o2 := 0) fun i' hi' => by
        rw [hlen2] at hi'
        simp only [Nat.zero_add]
        exact hgv i' hi') (fun i' hi' => by
        rw [hlen2] at hi'
        rw [hc, hval]
        simp only [cellOf, Nat.zero_add]
        exact (hgv i' hi').symm)
      obtain ⟨rfl, hvr⟩ := pick_ok h1 (by rw [dupL_length, hlen, hlen2]) hdup
      refine .value (w' := w) ?_ (h.putZ hd h2 hvr)
      simp only [execOp, ho, hx', Instr.field, Sem.run_bind, run_under hu, Result.andThen_ok, hf, asAgg, Sem.run_pure, run_part hag hm (show f.offset + m ≤ cs.size by omega) (fun e => by have := pick_agg h1 e; rw [dupL_length, hlen2] at this; exact this)]
theorem rowAt_ok {rows : List (List D)} {i : Int} {r : List D} (hr : (rowAt rows i).run S = some (r, S')) : S' = S ∧ 0 ≤ i ∧ rows[i.toNat]? = some r := by
  unfold rowAt at hr
  obtain ⟨hi, hr⟩ := Pg.ite_some hr
  cases hri : rows[i.toNat]? with
  | none => simp only [hri] at hr; exact (Pg.fail_some hr).elim
  | some r' => simp only [hri] at hr; obtain ⟨rfl, rfl⟩ := Prod.mk.inj (Pg.ret_some hr); exact ⟨rfl, hi, rfl⟩
theorem int_ok {d : D} {n : Int} (hr : (D.int d).run S = some (n, S')) : S' = S ∧ ∃ k, d = .i k n := by
  cases d with
  | i k m => obtain ⟨rfl, rfl⟩ := Prod.mk.inj (Pg.ret_some hr); exact ⟨rfl, k, rfl⟩
  | _ => exact (Pg.fail_some hr).elim
theorem ok_iaddr {t e : TypeId} {x ix : Operand} {xa ia : X} {wd : Nat} (ho : o.op = .indexAddr t x ix) (he : P.underlying t = some (.slice e)) (hw : szT P e = some wd) (hx : cX P c.n t x = some xa) (hi : cX P c.n 0 ix = some ia) (h : SR c zF S a w) (hd : dstOk c o.dst) (hr : (stepO E o.dst vs (.iaddr wd xa ia)).run S = some (u, S')) : OpGoal P c S' o a w := by
  obtain ⟨d, S1, h1, h2⟩ := Pg.bind_some hr
  obtain ⟨n, S2, h3, h4⟩ := Pg.bind_some h2
  obtain ⟨v, S3, h5, h6⟩ := Pg.bind_some h4
  obtain ⟨rfl, t1⟩ := getD_ok h h1 (cX_ok hi)
  obtain ⟨rfl, k, rfl⟩ := int_ok h3
  obtain ⟨d2, S4, h7, h8⟩ := Pg.bind_some h5
  obtain ⟨rfl, t2⟩ := getD_ok h h7 (cX_ok hx)
  have run : ∀ b off len cap, a.eval x = .slice (some ⟨b, off, none⟩) len cap → 0 ≤ n → n < len → (execOp a.eval o).run P w = .ok (.value (.pointer (some ⟨b, off + n.toNat * wd, none⟩))) w := by
    intro b off len cap hv h0 hlt
    simp only [execOp, ho, hv, val_i t1, Instr.indexAt, Sem.run_bind, asIntOf, Sem.run_pure, Result.andThen_ok, run_under he]
    rw [if_pos ⟨h0, hlt⟩]
    simp only [Sem.run_bind, run_size hw, Result.andThen_ok, Sem.run_pure, addr_add]
  cases d2 with
  | al k2 j st n2 =>
    obtain ⟨c2, S5, h9, h10⟩ := Pg.bind_some h8
    obtain ⟨rfl, hown, s, hs, hn, hp⟩ := lookAl_ok h9
    have ha := t2.2
    cases c2 with
    | sl ow wd' rows =>
      cases ow with
      | true =>
        dsimp only at h10
        obtain ⟨hww, h10'⟩ := Pg.ite_some h10
        subst hww
        obtain ⟨r, S6, h11, h12⟩ := Pg.bind_some h10'
        obtain ⟨rfl, h0, hri⟩ := rowAt_ok h11
        obtain ⟨s', hs', h12⟩ := Pg.rd_some h12
        rw [hs] at hs'
        obtain rfl := Option.some.inj hs'
        obtain ⟨rfl, rfl⟩ := Prod.mk.inj (Pg.ret_some h12)
        have hlt := lt_of_get hri
        obtain ⟨F, v, hv, hnr, hF1, _, _⟩ := h.look hs hp rfl
        rw [ha.hdr hs hn] at hv
        obtain rfl := Option.some.inj hv
        obtain ⟨b, off, cap, cs, T, F1, F2, hval, _⟩ := hnr.row hF1 hri
        refine .value (run b off _ cap hval h0 (by omega)) (h.putZ hd h6 ?_)
        refine ⟨rfl, s, hs, Nat.le_refl _, fun _ => ⟨wd, rows, b, off, rows.length, cap, hp, ?_, hlt, rfl⟩⟩
        rw [ha.hdr hs hn, hval]
      | false => simp [own] at hown
    | _ => exact (Pg.fail_some h10).elim
  | sl ow wd' rows =>
    cases ow with
    | true => exact (Pg.fail_some h8).elim
    | false =>
      dsimp only at h8
      obtain ⟨hww, h8'⟩ := Pg.ite_some h8
      subst hww
      obtain ⟨r, S6, h11, h12⟩ := Pg.bind_some h8'
      obtain ⟨rfl, h0, hri⟩ := rowAt_ok h11
      obtain ⟨rfl, rfl⟩ := Prod.mk.inj (Pg.ret_some h12)
      have hlt := lt_of_get hri
      have hn := plain_val t2 rfl
      unfold NRel at hn
      obtain ⟨_, ad, cap, hv, hle, hn⟩ := hn
      rcases hn with rfl | ⟨b, off, cs, T, fr, rfl, hI, hb, hrr⟩
      · simp at hlt
      · obtain ⟨F1, F2, hl, hcr, hz, _⟩ := RRel.at rows off zF hrr n.toNat r hri
        have hz1 : F1 = zF := by funext z; have := congrFun hz z; simp only [addF, zF] at this ⊢; omega
        subst hz1
        refine .value (run b off _ cap hv h0 (by omega)) (h.putZ hd h6 ?_)
        have : NRel c.I w (.pt r) (.pointer (some ⟨b, off + n.toNat * wd, none⟩)) zF := by
          unfold NRel
          exact ⟨rfl, b, _, cs, T, fr, rfl, hI, hb, hcr⟩
        exact VR_N this
  | _ => exact (Pg.fail_some h8).elim
end
end Go.Proofs.Vai
