import PyProof.Rows.All
import PyProof.Conv_int_bool
import PyProof.P3Eq
import PyProof.ExcBaseAll.Exception
import PyProof.ExcAttrAll.Exception
import PyProof.RaisesMany
import PyProof.InstLoad
import PyProof.InstStoreFacts
import PyProof.NsDelKeeps
import PyProof.Rows.Catch
import PyProof.Rows.SortWalk
import OpenK.KMore
import OpenK.KQuick
import OpenK.KLine
import KE.KLam
import KE.KDictSum
import KE.KRevIter
import Open.Tops
import Lean
import PySem.Challenge.RW_rh0057_01
set_option linter.all false
set_option tactic.hygienic false
set_option genInjectivity false
set_option genSizeOf false
set_option Elab.async false
set_option maxRecDepth 100000
set_option maxHeartbeats 0

namespace Mine
noncomputable section
open PySem PySem.W PyProof.Rows
abbrev D:=PyData
theorem aE2 {a b r:Prop} (h:a∧b) (k:a→b→r):r:=k h.1 h.2
theorem aE3 {a b c r:Prop} (h:a∧b∧c) (k:a→b→c→r):r:=k h.1 h.2.1 h.2.2
theorem aE4 {a b c d r:Prop} (h:a∧b∧c∧d) (k:a→b→c→d→r):r:=aE3 h.2 (k h.1)
theorem aE5 {a b c d e r:Prop} (h:a∧b∧c∧d∧e) (k:a→b→c→d→e→r):r:=aE4 h.2 (k h.1)
theorem aE6 {a b c d e f r:Prop} (h:a∧b∧c∧d∧e∧f) (k:a→b→c→d→e→f→r):r:=aE5 h.2 (k h.1)
theorem aE7 {a b c d e f g r:Prop} (h:a∧b∧c∧d∧e∧f∧g) (k:a→b→c→d→e→f→g→r):r:=aE6 h.2 (k h.1)
theorem cN {α:Type} {a:α} {P:Prop} (h:none=some a):P:=nomatch h
theorem cM {α:Type} {a:α} {P:Prop} (h:some a=none):P:=nomatch h
theorem cF {P:Prop} (h:false=true):P:=nomatch h
theorem cT {P:Prop} (h:true=false):P:=nomatch h
inductive B where
 | len | abs | max | min | list | tuple | sorted | all | range | enumerate | reversed
noncomputable def B.name:B→Str
 | .len=>"len" | .abs=>"abs" | .max=>"max" | .min=>"min" | .list=>"list" | .tuple=>"tuple" | .sorted=>"sorted"
 | .all=>"all" | .range=>"range" | .enumerate=>"enumerate" | .reversed=>"reversed"
inductive Mth where
 | get | items | append | extend | insert
noncomputable def Mth.name:Mth→Str
 | .get=>"get" | .items=>"items" | .append=>"append" | .extend=>"extend" | .insert=>"insert"
inductive E where
 | nil
 | cons (h t:E)
 | cst (c:Const) (k:Nat) (p:Pos)
 | var (x:Nat) (p:Pos)
 | glb (x:Nat) (p:Pos)
 | bin (a:E) (op:Operator) (b:E) (p:Pos)
 | neg (a:E) (p:Pos)
 | nott (a:E) (p:Pos)
 | ite (t b o:E) (p:Pos)
 | boo (op:BoolOp) (l:E) (p:Pos)
 | cmp (a:E) (ops:List CmpOp) (l:E) (p:Pos)
 | tup (l:E) (k:Nat) (p:Pos)
 | lst (l:E) (p:Pos)
 | dct (p:Pos)
 | sub (v i:E) (p:Pos)
 | slc (lo hi st:E) (p:Pos)
 | call (f:Nat) (fp:Pos) (l:E) (p:Pos)
 | blt (b:B) (fp:Pos) (l:E) (p:Pos)
 | meth (o:E) (m:Mth) (mp:Pos) (l:E) (p:Pos)
 | lco (elt gens:E) (tg:List Nat) (sc:Scope) (p:Pos)
 | dco (k v gens:E) (tg:List Nat) (sc:Scope) (p:Pos)
 | gen (t i fs:E)
 | raw (e:Expr)
inductive S where
 | nil
 | cons (h t:S)
 | asg (t e:E) (o:Bool) (z:List Nat) (p:Pos)
 | asgT (ts:E) (k1:Nat) (p1:Pos) (es:E) (k2:Nat) (p2:Pos) (os:List Bool) (z:List Nat) (p:Pos)
 | asgS (x:Nat) (xp:Pos) (i:E) (sp:Pos) (e:E) (z:List Nat) (p:Pos)
 | popL (x:Nat) (xp:Pos) (y:Nat) (yp mp cp p:Pos)
 | popD (x:Nat) (xp:Pos) (y:Nat) (yp mp:Pos) (k e:E) (cp p:Pos)
 | augN (x:Nat) (xp:Pos) (op:Operator) (e:E) (p:Pos)
 | augS (x:Nat) (xp:Pos) (i:E) (sp:Pos) (op:Operator) (e:E) (p:Pos)
 | mth (x:Nat) (xp:Pos) (m:Mth) (mp:Pos) (l:E) (cp:Pos) (z:List Nat) (p:Pos)
 | swp (f:Nat) (fp:Pos) (x:Nat) (xp:Pos) (i j:E) (cp p:Pos)
 | exp (e:E) (z:List Nat) (p:Pos)
 | ret (e:E) (z:List Nat) (p:Pos)
 | iff (t:E) (b o:S) (p:Pos)
 | whl (t:E) (b:S) (p:Pos)
 | fr (t i:E) (b:S) (z:List Nat) (p:Pos)
 | cont (p:Pos)
 | raw (s:Stmt)
section
variable (nm:Nat→Str)
mutual
@[reducible] noncomputable def up:E→Expr
 | .cst c k p=> .Constant c k p
 | .var x p=> .Name (nm x) p
 | .glb x p=> .Name (nm x) p
 | .bin a op b p=> .BinOp (up a) op (up b) p
 | .neg a p=> .UnaryOp .USub (up a) p
 | .nott a p=> .UnaryOp .Not (up a) p
 | .ite t b o p=> .IfExp (up t) (up b) (up o) p
 | .boo op l p=> .BoolOp op (ups l) p
 | .cmp a ops l p=> .Compare (up a) ops (ups l) p
 | .tup l k p=> .Tuple (ups l) k p
 | .lst l p=> .List (ups l) p
 | .dct p=> .Dict [] [] p
 | .sub v i p=> .Subscript (up v) (up i) p
 | .slc lo hi st p=> .Slice (upo lo) (upo hi) (upo st) p
 | .call f fp l p=> .Call (.Name (nm f) fp) (ups l) [] p
 | .blt b fp l p=> .Call (.Name b.name fp) (ups l) [] p
 | .meth o m mp l p=> .Call (.Attribute (up o) m.name mp) (ups l) [] p
 | .lco elt gens _ sc p=> .ListComp (up elt) (upg gens) sc p
 | .dco k v gens _ sc p=> .DictComp (up k) (up v) (upg gens) sc p
 | .raw e=>e
 | _=> .Constant .none 0 ⟨0,0,0,0⟩
@[reducible] noncomputable def ups:E→List Expr
 | .cons h t=>up h :: ups t
 | _=>[]
@[reducible] noncomputable def upo:E→Option Expr
 | .cons h _=>some (up h)
 | _=>none
@[reducible] noncomputable def upg:E→List Comprehension
 | .cons h t=>upc h :: upg t
 | _=>[]
@[reducible] noncomputable def upc:E→Comprehension
 | .gen t i fs=>⟨up t,up i,ups fs,0⟩
 | _=>⟨.Constant .none 0 ⟨0,0,0,0⟩, .Constant .none 0 ⟨0,0,0,0⟩,[],0⟩
end
mutual
@[reducible] noncomputable def upS:S→Stmt
 | .asg t e _ _ p=> .Assign [up nm t] (up nm e) p
 | .asgT ts k1 p1 es k2 p2 _ _ p=> .Assign [.Tuple (ups nm ts) k1 p1] (.Tuple (ups nm es) k2 p2) p
 | .asgS x xp i sp e _ p=> .Assign [.Subscript (.Name (nm x) xp) (up nm i) sp] (up nm e) p
 | .popL x xp y yp mp cp p=> .Assign [.Name (nm x) xp] (.Call (.Attribute (.Name (nm y) yp) "pop" mp) [] [] cp) p
 | .popD x xp y yp mp k e cp p=> .Assign [.Name (nm x) xp] (.Call (.Attribute (.Name (nm y) yp) "pop" mp) [up nm k,up nm e] [] cp) p
 | .augN x xp op e p=> .AugAssign (.Name (nm x) xp) op (up nm e) p
 | .augS x xp i sp op e p=> .AugAssign (.Subscript (.Name (nm x) xp) (up nm i) sp) op (up nm e) p
 | .mth x xp m mp l cp _ p=> .Expr (.Call (.Attribute (.Name (nm x) xp) m.name mp) (ups nm l) [] cp) p
 | .swp f fp x xp i j cp p=> .Expr (.Call (.Name (nm f) fp) [.Name (nm x) xp,up nm i,up nm j] [] cp) p
 | .exp e _ p=> .Expr (up nm e) p
 | .ret e _ p=> .Return (upo nm e) p
 | .iff t b o p=> .If (up nm t) (zCW b) (zCW o) p
 | .whl t b p=> .While (up nm t) (zCW b) [] p
 | .fr t i b _ p=> .For (up nm t) (up nm i) (zCW b) [] p
 | .cont p=> .Continue p
 | .raw s=>s
 | _=> .Pass ⟨0,0,0,0⟩
@[reducible] noncomputable def zCW:S→List Stmt
 | .cons h t=>upS h :: zCW t
 | _=>[]
end
end
local macro_rules |`(tactic|cases $h:term)=>`(tactic|first|exact cN $h|exact cF $h|exact cT $h|exact cM $h|(have q:=Eq.symm (Option.some.inj $h);subst q)|fail)
local macro_rules |`(tactic|obtain ⟨$ps,*⟩:=$h)=>do
  let l:=ps.getElems
  if l.size<2||l.any (fun p=>(p.raw.find? fun s=>s.isToken "|").isSome) then Lean.Macro.throwUnsupported
  let f (p:Lean.Syntax):Option Lean.Ident:=let q:=p[0][0];if q.getArgs.size==1&&q[0].isOfKind ``Lean.Parser.Tactic.rcasesPat.one&&q[0][0].getId != `rfl then some ⟨q[0][0]⟩ else none
  let c←if h.raw.isIdent then `(tactic|try clear $(⟨h.raw⟩)) else `(tactic|skip)
  let g (p:Lean.Syntax) (s:Lean.Ident):Lean.MacroM (Lean.TSyntax `tactic):=match f p with|some _=>`(tactic|skip)|none=>`(tactic|obtain $(⟨p[0]⟩):rcasesPatMed:=$s)
  let s:=(f l[0]!).getD (Lean.mkIdent `u8)
  let r←g l[0]! s
  let m:=l.extract 1 l.size
  let t:=(if m.size==1 then f m[0]! else none).getD (Lean.mkIdent `u9)
  let u←if m.size==1 then g m[0]! t else `(tactic|obtain ⟨$m,*⟩:=$t)
  let z←`(tactic|first|(refine And.elim ?_ $h;$c;intro $s:ident $t:ident;$r;$u)|(refine Exists.elim $h ?_;$c;intro $s:ident $t:ident;$r;$u)|fail)
  let i:=l.filterMap fun p=>f p
  if i.size==l.size&&2<i.size&&i.size<8 then `(tactic|first|(refine $(Lean.mkIdent (.mkSimple s!"aE{i.size}")) $h ?_;$c;intro $i*)|($z:tactic)) else pure z
inductive Slot where
 | val (d:D)
 | own (d:D)
abbrev Frm:=List (Nat×Slot)
section
def zAA {τ:Type} (b:Bool) (x y:τ):τ:=Bool.rec (motive:=fun V=>τ) y x b
def bnd {α β:Type} (o:Option α) (f:α→Option β):Option β:=Option.rec (motive:=fun V=>Option β) none f o
def onL {α τ:Type} (l:List α) (z:τ) (f:α→List α→τ):τ:=List.rec (motive:=fun V=>τ) z (fun a r V=>f a r) l
section
variable {R:Type}
def onD (n:R) (b:Bool→R) (i:Int→R) (s:Str→R) (l t:List D→R) (k:List (D×D)→R) (d:D):R:=
 PyData.rec (motive_1:=fun V=>R) (motive_2:=fun V=>PUnit) (motive_3:=fun V=>PUnit) (motive_4:=fun V=>PUnit) n b i s (fun x V=>l x) (fun x V=>t x) (fun x V=>k x) ⟨⟩ (fun V V V V=>⟨⟩) ⟨⟩ (fun V V V V=>⟨⟩) (fun V V V V=>⟨⟩) d
def zAO (d:D) (f:Int→R) (z:R):R:=
 PyData.rec (motive_1:=fun V=>R) (motive_2:=fun V=>PUnit) (motive_3:=fun V=>PUnit) (motive_4:=fun V=>PUnit) z (fun V=>z) f (fun V=>z) (fun V V=>z) (fun V V=>z) (fun V V=>z) ⟨⟩ (fun V V V V=>⟨⟩) ⟨⟩ (fun V V V V=>⟨⟩) (fun V V V V=>⟨⟩) d
def zAz (d:D) (f:List D→R) (z:R):R:=
 PyData.rec (motive_1:=fun V=>R) (motive_2:=fun V=>PUnit) (motive_3:=fun V=>PUnit) (motive_4:=fun V=>PUnit) z (fun V=>z) (fun V=>z) (fun V=>z) (fun l V=>f l) (fun V V=>z) (fun V V=>z) ⟨⟩ (fun V V V V=>⟨⟩) ⟨⟩ (fun V V V V=>⟨⟩) (fun V V V V=>⟨⟩) d
def zFV (d:D) (f:List D→R) (z:R):R:=
 PyData.rec (motive_1:=fun V=>R) (motive_2:=fun V=>PUnit) (motive_3:=fun V=>PUnit) (motive_4:=fun V=>PUnit) z (fun V=>z) (fun V=>z) (fun V=>z) (fun V V=>z) (fun l V=>f l) (fun V V=>z) ⟨⟩ (fun V V V V=>⟨⟩) ⟨⟩ (fun V V V V=>⟨⟩) (fun V V V V=>⟨⟩) d
def zIi (d:D) (f:List D→R) (z:R):R:=
 PyData.rec (motive_1:=fun V=>R) (motive_2:=fun V=>PUnit) (motive_3:=fun V=>PUnit) (motive_4:=fun V=>PUnit) z (fun V=>z) (fun V=>z) (fun V=>z) (fun l V=>f l) (fun l V=>f l) (fun V V=>z) ⟨⟩ (fun V V V V=>⟨⟩) ⟨⟩ (fun V V V V=>⟨⟩) (fun V V V V=>⟨⟩) d
def zEJ (d:D) (f:List (D×D)→R) (z:R):R:=
 PyData.rec (motive_1:=fun V=>R) (motive_2:=fun V=>PUnit) (motive_3:=fun V=>PUnit) (motive_4:=fun V=>PUnit) z (fun V=>z) (fun V=>z) (fun V=>z) (fun V V=>z) (fun V V=>z) (fun l V=>f l) ⟨⟩ (fun V V V V=>⟨⟩) ⟨⟩ (fun V V V V=>⟨⟩) (fun V V V V=>⟨⟩) d
def zAi (d:D) (f z:R):R:=
 PyData.rec (motive_1:=fun V=>R) (motive_2:=fun V=>PUnit) (motive_3:=fun V=>PUnit) (motive_4:=fun V=>PUnit) f (fun V=>z) (fun V=>z) (fun V=>z) (fun V V=>z) (fun V V=>z) (fun V V=>z) ⟨⟩ (fun V V V V=>⟨⟩) ⟨⟩ (fun V V V V=>⟨⟩) (fun V V V V=>⟨⟩) d
end
def zAE (x:Nat) (l:Frm):Option Slot:=List.rec (motive:=fun V=>Option Slot) none (fun p V ih=>zAA (Nat.beq p.1 x) (some p.2) ih) l
def zBV (x:Nat) (s:Slot) (l:Frm):Frm:=List.rec (motive:=fun V=>Frm) [(x,s)] (fun p r ih=>zAA (Nat.beq p.1 x) ((x,s) :: r) (p :: ih)) l
def zDL {τ:Type} (x:Nat) (s:Slot) (l:Frm) (k:Frm→τ):τ:=
 List.rec (motive:=fun V=>(Frm→τ)→τ) (fun k=>k [(x,s)]) (fun p r ih k=>zAA (Nat.beq p.1 x) (k ((x,s) :: r)) (ih fun r=>k (p :: r))) l k
def zNh (x:Nat) (l:Frm):Frm:=List.rec (motive:=fun V=>Frm) [] (fun p V ih=>zAA (Nat.beq p.1 x) ih (p :: ih)) l
def zIT (xs:List Nat) (l:Frm):Frm:=List.rec (motive:=fun V=>Frm) l (fun x V ih=>zNh x ih) xs
def frzD (d:D):Slot:=onD (.own d) (fun V=> .own d) (fun V=> .own d) (fun V=> .own d) (fun V=> .val d) (fun V=> .own d) (fun V=> .own d) d
def frz1 (x:Nat) (l:Frm):Frm:=List.rec (motive:=fun V=>Frm) [] (fun p r ih=>zAA (Nat.beq p.1 x) ((x,Slot.rec (motive:=fun V=>Slot) .val frzD p.2) :: r) (p :: ih)) l
def frz (xs:List Nat) (l:Frm):Frm:=List.rec (motive:=fun V=>Frm) l (fun x V ih=>frz1 x ih) xs
def zOs (x:Nat) (l:Frm):Frm:=List.rec (motive:=fun V=>Frm) [] (fun p r ih=>zAA (Nat.beq p.1 x) (Slot.rec (motive:=fun V=>Frm) (fun V=>p :: r) (fun V=>zNh x r) p.2) (p :: ih)) l
def zJB (xs:List Nat) (l:Frm):Frm:=List.rec (motive:=fun V=>Frm) l (fun x V ih=>zOs x ih) xs
noncomputable def zDA {α:Type} (n:Nat) (k:Nat→α):α:=Nat.rec (motive:=fun V=>α) (k 0) (fun m V=>k (Nat.succ m)) n
def zDB {α:Type} (i:Int) (k:Int→α):α:=Int.rec (motive:=fun V=>α) (fun n=>zDA n fun m=>k (.ofNat m)) (fun n=>zDA n fun m=>k (.negSucc m)) i
def zBi {α:Type} (d:D) (k:D→α):α:=
 PyData.rec (motive_1:=fun V=>(D→α)→α) (motive_2:=fun V=>(List D→α)→α) (motive_3:=fun V=>(List (D×D)→α)→α) (motive_4:=fun V=>(D×D→α)→α)
  (fun k=>k .none) (fun b k=>zAA b (k (.bool true)) (k (.bool false))) (fun i k=>zDB i fun j=>k (.int j)) (fun s k=>k (.str s))
  (fun V ih k=>ih fun l=>k (.list l)) (fun V ih k=>ih fun l=>k (.tuple l)) (fun V ih k=>ih fun l=>k (.dict l))
  (fun k=>k []) (fun V V ih it k=>ih fun h=>it fun t=>k (h :: t))
  (fun k=>k []) (fun V V ih it k=>ih fun h=>it fun t=>k (h :: t))
  (fun V V ia ib k=>ia fun a=>ib fun b=>k (a,b)) d k
def zBn {α:Type} (l:List D) (k:List D→α):α:=
 List.rec (motive:=fun V=>(List D→α)→α) (fun k=>k []) (fun d V ih k=>zBi d fun d=>ih fun l=>k (d :: l)) l k
def zLB (i:Int):Nat:=Int.rec (motive:=fun V=>Nat) (fun n=>n) (fun n=>Nat.succ n) i
def zCo (i:Int):Option D:=zDB i fun j=>some (.int j)
noncomputable def zHp (b:Bool):Option D:=some (.bool b)
noncomputable def two64:Nat:=18446744073709551616
noncomputable def two62:Nat:=4611686018427387904
def zBB (i:Int):Bool:=Nat.blt (zLB i) two64
def zAU (i:Int):Bool:=Nat.blt (zLB i) two62
def len {α:Type} (l:List α):Nat:=List.rec (motive:=fun V=>Nat) 0 (fun V V ih=>Nat.succ ih) l
def zAI {α:Type} (l:List α):Bool:=Nat.ble (len l) 100000
def ltI (a b:Int):Bool:=Int.rec (motive:=fun V=>Bool) (fun m=>Int.rec (motive:=fun V=>Bool) (fun n=>Nat.blt m n) (fun V=>false) b) (fun m=>Int.rec (motive:=fun V=>Bool) (fun V=>true) (fun n=>Nat.blt n m) b) a
def leI (a b:Int):Bool:=Int.rec (motive:=fun V=>Bool) (fun m=>Int.rec (motive:=fun V=>Bool) (fun n=>Nat.ble m n) (fun V=>false) b) (fun m=>Int.rec (motive:=fun V=>Bool) (fun V=>true) (fun n=>Nat.ble n m) b) a
def eqI (a b:Int):Bool:=Int.rec (motive:=fun V=>Bool) (fun m=>Int.rec (motive:=fun V=>Bool) (fun n=>Nat.beq m n) (fun V=>false) b) (fun m=>Int.rec (motive:=fun V=>Bool) (fun V=>false) (fun n=>Nat.beq m n) b) a
def eqB (a b:Bool):Bool:=zAA a b (zAA b false true)
noncomputable def zLZ (x y:Str):Bool:=decide (x=y)
def zKv (b:Bool):Int:=zAA b 1 0
def zEm (b:Bool):Bool:=zAA b false true
def zBS (a:D):D→Bool:=
 PyData.rec (motive_1:=fun V=>D→Bool) (motive_2:=fun V=>List D→Bool) (motive_3:=fun V=>PUnit) (motive_4:=fun V=>PUnit)
  (fun b=>zAi b true false)
  (fun x b=>onD false (fun y=>eqB x y) (fun j=>eqI (zKv x) j) (fun V=>false) (fun V=>false) (fun V=>false) (fun V=>false) b)
  (fun i b=>onD false (fun y=>eqI i (zKv y)) (fun j=>eqI i j) (fun V=>false) (fun V=>false) (fun V=>false) (fun V=>false) b)
  (fun s b=>onD false (fun V=>false) (fun V=>false) (fun t=>zLZ s t) (fun V=>false) (fun V=>false) (fun V=>false) b)
  (fun V ih b=>zAz b ih false) (fun V ih b=>zFV b ih false) (fun V V V=>false)
  (fun l=>onL l true fun V V=>false) (fun V V ih it l=>onL l false fun y ys=>zAA (ih y) (it ys) false)
  ⟨⟩ (fun V V V V=>⟨⟩) (fun V V V V=>⟨⟩) a
def zPI (a b:Nat):Nat:=zAA (Nat.ble a b) b a
def zLS (a:D):Nat:=
 PyData.rec (motive_1:=fun V=>Nat) (motive_2:=fun V=>Nat) (motive_3:=fun V=>Nat) (motive_4:=fun V=>Nat)
  0 (fun V=>0) (fun V=>0) (fun V=>0) (fun V ih=>Nat.succ ih) (fun V ih=>Nat.succ ih) (fun V ih=>Nat.succ ih)
  0 (fun V V ih it=>zPI ih it) 0 (fun V V ih it=>zPI ih it) (fun V V ia ib=>zPI ia ib) a
def zQY (d:D):Bool:=onD true (fun V=>true) (fun V=>true) (fun V=>true) (fun V=>false) (fun V=>false) (fun V=>false) d
def zJc (d:D):Bool:=zAA (zQY d) true (Nat.ble (zLS d) 60)
def eqD (a b:D):Option Bool:=zAA (zQY a) (some (zBS a b)) (zAA (zJc b) (some (zBS a b)) (zAA (zJc a) (some (zBS a b)) none))
def zFy (a:D):Bool:=
 PyData.rec (motive_1:=fun V=>Bool) (motive_2:=fun V=>Bool) (motive_3:=fun V=>PUnit) (motive_4:=fun V=>PUnit)
  false (fun V=>false) (fun V=>true) (fun V=>true) (fun V V=>false) (fun V ih=>ih) (fun V V=>false)
  true (fun V V ih it=>zAA ih it false) ⟨⟩ (fun V V V V=>⟨⟩) (fun V V V V=>⟨⟩) a
def zAe (a:D):Bool:=onD false (fun V=>false) (fun V=>false) (fun V=>false) (fun V=>false) (fun l=>zAA (zFy (.tuple l)) (Nat.ble (zLS (.tuple l)) 7) false) (fun V=>false) a
def isS (a:D):Bool:=onD false (fun V=>false) (fun V=>false) (fun V=>true) (fun V=>false) (fun V=>false) (fun V=>false) a
def isTp (a:D):Bool:=onD false (fun V=>false) (fun V=>false) (fun V=>false) (fun V=>false) (fun V=>true) (fun V=>false) a
def zEq (l:List (D×D)):Bool:=List.rec (motive:=fun V=>Bool) true (fun p V V=>isTp p.1) l
def zMB (a:D):Bool:=onD false (fun V=>false) (fun V=>false) (fun V=>true) (fun V=>false) (fun l=>zAA (zFy (.tuple l)) (Nat.ble (zLS (.tuple l)) 7) false) (fun V=>false) a
def app {α:Type} (l m:List α):List α:=List.rec (motive:=fun V=>List α) m (fun a V ih=>a :: ih) l
def zLL {α β:Type} (f:α→β) (l:List α):List β:=List.rec (motive:=fun V=>List β) [] (fun a V ih=>f a :: ih) l
def revA {α:Type} (l:List α) (m:List α):List α:=List.rec (motive:=fun V=>List α→List α) (fun m=>m) (fun a V ih m=>ih (a :: m)) l m
def rev {α:Type} (l:List α):List α:=revA l []
def zOQ (l:List D) (n:Nat):List D:=Nat.rec (motive:=fun V=>List D) [] (fun V ih=>app l ih) n
def toN (i:Int):Nat:=Int.rec (motive:=fun V=>Nat) (fun n=>n) (fun V=>0) i
def zFW {α:Type} (l:List α) (n:Nat):Option α:=List.rec (motive:=fun V=>Nat→Option α) (fun V=>none) (fun a V ih n=>Nat.rec (motive:=fun V=>Option α) (some a) (fun m V=>ih m) n) l n
def zPu (l:List D) (i:Int):Option D:=Int.rec (motive:=fun V=>Option D) (fun n=>zFW l n) (fun n=>zFW (rev l) n) i
def zBk {α:Type} (n:Nat) (l:List α):List α:=List.rec (motive:=fun V=>Nat→List α) (fun V=>[]) (fun a V ih n=>Nat.rec (motive:=fun V=>List α) [] (fun m V=>a :: ih m) n) l n
def zEZ {α:Type} (n:Nat) (l:List α):List α:=Nat.rec (motive:=fun V=>List α→List α) (fun l=>l) (fun V ih l=>onL l [] fun V r=>ih r) n l
def zJL {α:Type} (n:Nat) (x:α) (l:List α):Option (List α):=
 List.rec (motive:=fun V=>Nat→Option (List α)) (fun V=>none) (fun a r ih n=>Nat.rec (motive:=fun V=>Option (List α)) (some (x :: r)) (fun m V=>bnd (ih m) fun r=>some (a :: r)) n) l n
def zDk (l:List D):Option D:=zAA (zAI l) (some (.list l)) none
def tupR (l:List D):Option D:=zAA (zAI l) (some (.tuple l)) none
def addR (a b:D):Option D:=onD none (fun V=>none) (fun x=>zAO b (fun y=>zCo (Int.add x y)) none) (fun V=>none)
 (fun x=>zAz b (fun y=>zDk (app x y)) none) (fun x=>zFV b (fun y=>onL x none fun V V=>onL y none fun V V=>tupR (app x y)) none) (fun V=>none) a
def subR (a b:D):Option D:=onD none (fun p=>onD none (fun q=>zCo (Int.sub (zKv p) (zKv q))) (fun V=>none) (fun V=>none) (fun V=>none) (fun V=>none) (fun V=>none) b)
 (fun x=>zAO b (fun y=>zCo (Int.sub x y)) none) (fun V=>none) (fun V=>none) (fun V=>none) (fun V=>none) a
def mulR (a b:D):Option D:=onD none (fun V=>none) (fun x=>zAO b (fun y=>zAA (zBB x) (zCo (Int.mul x y)) (zAA (zBB y) (zCo (Int.mul x y)) none)) none) (fun V=>none)
 (fun x=>zAO b (fun y=>zAA (Nat.ble (toN y) 100000) (zAA (zAU y) (zDk (zOQ x (toN y))) none) none) none) (fun V=>none) (fun V=>none) a
def zMm (a b:D):Option D:=zAO a (fun x=>zAO b (fun y=>zAA (eqI y 0) none (zAA (Nat.blt (Nat.log2 (zLB y)) 9000) (zCo (Int.fdiv x y)) none)) none) none
def zMk (a b:D):Option D:=zAO a (fun x=>zAO b (fun y=>zAA (eqI y 0) none (zCo (Int.fmod x y))) none) none
def powR (a b:D):Option D:=zAO a (fun x=>zAO b (fun y=>Int.rec (motive:=fun V=>Option D) (fun n=>zAA (Nat.ble n 1000000) (zAA (zBB x) (zCo (Int.pow x n)) none) none) (fun V=>none) y) none) none
def zJN (op:Operator) (a b:D):Option D:=
 Operator.rec (motive:=fun V=>Option D) (addR a b) (subR a b) (mulR a b) none none (zMk a b) (powR a b) none none none none none (zMm a b) op
def negR (a:D):Option D:=zAO a (fun x=>zCo (Int.neg x)) none
def zFR (a:D):Option Bool:=onD (some false) some (fun i=>some (zEm (eqI i 0))) (fun V=>none) (fun V=>none) (fun V=>none) (fun V=>none) a
def zGx (a:D) (l:List D):Bool:=List.rec (motive:=fun V=>Bool) false (fun x V ih=>zAA (zBS x a) true ih) l
def zNb (a:D) (l:List (D×D)):Bool:=List.rec (motive:=fun V=>Bool) false (fun x V ih=>zAA (zBS x.1 a) true ih) l
def zBt (a:D) (l:List (D×D)):Option D:=List.rec (motive:=fun V=>Option D) none (fun x V ih=>zAA (zBS x.1 a) (some x.2) ih) l
def zEi (k v:D) (l:List (D×D)):List (D×D):=List.rec (motive:=fun V=>List (D×D)) [(k,v)] (fun x r ih=>zAA (zBS x.1 k) ((x.1,v) :: r) (x :: ih)) l
def zKo (k:D) (l:List (D×D)):List (D×D):=List.rec (motive:=fun V=>List (D×D)) [] (fun x r ih=>zAA (zBS x.1 k) r (x :: ih)) l
def isIn (a b:D):Option Bool:=onD none (fun V=>none) (fun V=>none) (fun V=>none) (fun l=>zAA (zJc a) (some (zGx a l)) none) (fun l=>zAA (zJc a) (some (zGx a l)) none)
 (fun l=>zAA (zAe a) (zAA (zEq l) (some (zNb a l)) none) none) b
def zPv (o:Option Bool):Option Bool:=bnd o fun b=>some (zEm b)
def isNone (a:D):Bool:=zAi a true false
def zSg (f:Int→Int→Bool) (a b:D):Option Bool:=zAO a (fun x=>zAO b (fun y=>some (f x y)) none) none
def cmpR (op:CmpOp) (a b:D):Option Bool:=
 CmpOp.rec (motive:=fun V=>Option Bool) (eqD a b) (zPv (eqD a b)) (zSg ltI a b) (zSg leI a b) (zSg (fun x y=>ltI y x) a b) (zSg (fun x y=>leI y x) a b)
  (zAi b (some (isNone a)) none) (zAi b (some (zEm (isNone a))) none) (isIn a b) (zPv (isIn a b)) op
def zLN (op:CmpOp):Bool:=CmpOp.rec (motive:=fun V=>Bool) false false false false false false false false true true op
def zLO (a i:D):Option D:=onD none (fun V=>none) (fun V=>none) (fun V=>none)
 (fun l=>zAO i (fun i=>zAA (zAU i) (zPu l i) none) none) (fun l=>zAO i (fun i=>zAA (zAU i) (zPu l i) none) none) (fun l=>zAA (zMB i) (zBt i l) none) a
def zBu (n:Nat) (i:Int):Nat:=Int.rec (motive:=fun V=>Nat) (fun k=>zAA (Nat.ble k n) k n) (fun k=>Nat.sub n (Nat.succ k)) i
def zNJ (l:List D) (lo hi st:D):Option (List D):=
 onD (zAi st (zAO hi (fun j=>zAA (zAU j) (some (zBk (zBu (len l) j) l)) none) none) (zAi hi (zAO st (fun j=>zAA (eqI j (-1)) (some (rev l)) none) none) none))
  (fun V=>none) (fun i=>zAi hi (zAi st (zAA (zAU i) (some (zEZ (zBu (len l) i) l)) none) none) none) (fun V=>none) (fun V=>none) (fun V=>none) (fun V=>none) lo
def zNI (l:List D) (lo hi st:D):Option (List D):=zAi hi (zAi st (zAO lo (fun i=>Int.rec (motive:=fun V=>Option (List D)) (fun n=>zAA (Nat.ble 1 n) (zAA (Nat.ble n (len l)) (some (zEZ n l)) none) none) (fun V=>none) i) none) none) none
def zHx (a lo hi st:D):Option D:=onD none (fun V=>none) (fun V=>none) (fun V=>none)
 (fun l=>zAA (zAI l) (bnd (zNJ l lo hi st) fun l=>some (.list l)) none) (fun l=>zAA (zAI l) (bnd (zNI l lo hi st) fun l=>some (.tuple l)) none) (fun V=>none) a
def zCZ (a:Int) (n:Nat):List D:=Nat.rec (motive:=fun V=>Int→List D) (fun V=>[]) (fun V ih a=> .int a :: zDB (Int.add a 1) ih) n a
def zCb (a:Int) (n:Nat):List D:=Nat.rec (motive:=fun V=>Int→List D) (fun V=>[]) (fun V ih a=> .int a :: zDB (Int.sub a 1) ih) n a
def zEG (a b:Int):Option (List D):=zAA (zAU a) (zAA (zAU b) (zDA (toN (Int.sub b a)) fun n=>zAA (Nat.ble n 100000) (some (zCZ a n)) none) none) none
def zJu (a b:Int):Option (List D):=zAA (zAU a) (zAA (zAU b) (zDA (toN (Int.sub a b)) fun n=>zAA (Nat.ble n 100000) (some (zCb a n)) none) none) none
def zJt (l:List D):Option (List D):=onL l none fun a r=>zAO a (fun a=>onL r (zEG 0 a) fun b r=>zAO b (fun b=>onL r (zEG a b) fun c r=>onL r (zAO c (fun c=>zAA (eqI c (-1)) (zJu a b) none) none) fun V V=>none) none) none
def zDl (i:Nat) (l:List D):List D:=List.rec (motive:=fun V=>Nat→List D) (fun V=>[]) (fun d V ih i=> .tuple [.int (.ofNat i),d] :: zDA (Nat.succ i) ih) l i
def zKS (d:D):Option (List D):=zIi d some none
def zEj {τ:Type} (l:List D) (f:D→Option τ):Option τ:=onL l none fun a r=>onL r (f a) fun V V=>none
def zLV {τ:Type} (l:List D) (f:D→D→Option τ):Option τ:=onL l none fun a r=>onL r none fun b r=>onL r (f a b) fun V V=>none
def zLR (f:Int→Int→Bool) (a:Int) (l:List D):Option D:=List.rec (motive:=fun V=>Int→Option D) (fun a=>some (.int a)) (fun d V ih a=>zAO d (fun b=>zAA (f a b) (ih b) (ih a)) none) l a
def zSc (f:Int→Int→Bool) (l:List D):Option D:=onL l none fun a r=>zAO a (fun a=>onL r none fun b r'=>onL r' (zAO b (fun b=>some (.int (zAA (f a b) b a))) none) fun V V=>none) (zAz a (fun l=>zAA (isNil r) (onL l none fun a r=>zAO a (fun a=>zLR f a r) none) none) none)
where isNil (r:List D):Bool:=onL r true fun V V=>false
def zQL (i:Int) (l:List Int):List Int:=List.rec (motive:=fun V=>List Int) [i] (fun j r ih=>zAA (leI i j) (i :: j :: r) (j :: ih)) l
def zHK (l:List Int):List Int:=List.rec (motive:=fun V=>List Int) [] (fun i V ih=>zQL i ih) l
def zGg (l:List D):Option (List Int):=List.rec (motive:=fun V=>Option (List Int)) (some []) (fun d V ih=>zAO d (fun i=>bnd ih fun r=>some (i :: r)) none) l
def zLc (d:D):Option D:=onD none (fun V=>none) (fun V=>none) (fun V=>none) (fun l=>zAA (Nat.blt (len l) 64) (bnd (zGg l) fun is=>some (.list (zLL PyData.int (zHK is)))) none) (fun V=>none)
 (fun kvs=>onL kvs (some (.list [])) fun p r=>onL r (onD none (fun V=>none) (fun V=>none) (fun s=>some (.list [.str s])) (fun V=>none) (fun V=>none) (fun V=>none) p.1) fun V V=>none) d
def allB (l:List D):Option Bool:=List.rec (motive:=fun V=>Option Bool) (some true) (fun d V ih=>onD none (fun b=>bnd ih fun r=>some (zAA b r false)) (fun V=>none) (fun V=>none) (fun V=>none) (fun V=>none) (fun V=>none) d) l
def allL (l:List D):Option D:=bnd (allB l) zHp
def zSk (b:B) (l:List D):Option D:=
 B.rec (motive:=fun V=>Option D) (zEj l fun d=>zIi d (fun l=>zAA (zAI l) (some (.int (.ofNat (len l)))) none) none) (zEj l fun d=>zAO d (fun i=>some (.int (.ofNat (zLB i)))) none)
  (zSc (fun a b=>ltI a b) l) (zSc (fun a b=>ltI b a) l) (zEj l fun d=>zIi d (fun l=>zAA (zAI l) (some (.list l)) none) none) (zEj l fun d=>zAz d (fun l=>zAA (zAI l) (some (.tuple l)) none) none)
  (zEj l zLc) (zEj l fun d=>zAz d allL none) none none none b
def bltI (b:B) (l:List D):Option (List D):=
 B.rec (motive:=fun V=>Option (List D)) none none none none none none none none (zJt l) (zEj l fun d=>zAz d (fun l=>zAA (zAI l) (some (zDl 0 l)) none) none) (zEj l fun d=>zAz d (fun l=>zAA (zAI l) (some (rev l)) none) none) b
def zPx (m:Mth) (a:D) (l:List D):Option D:=
 Mth.rec (motive:=fun V=>Option D) (zEJ a (fun kvs=>zLV l fun k e=>zAA (zAe k) (zAA (zEq kvs) (Option.rec (motive:=fun V=>Option D) (some e) some (zBt k kvs)) none) none) none) none none none none m
def zLo (m:Mth) (a:D) (l:List D):Option (List D):=
 Mth.rec (motive:=fun V=>Option (List D)) none (zEJ a (fun kvs=>onL l (zAA (zAI kvs) (zAA (zEq kvs) (some (zLL (fun p=>PyData.tuple [p.1,p.2]) kvs)) none) none) fun V V=>none) none) none none none m
def zOK (l:List D):Option (List (D×D)):=List.rec (motive:=fun V=>List (D×D)→Option (List (D×D))) some
 (fun d V ih acc=>zFV d (fun l=>zLV l fun k v=>zAA (isS k) (ih (zEi k v acc)) none) none) l []
def cstR (c:Const):Option D:=Const.rec (motive:=fun V=>Option D) (some .none) (fun b=>some (.bool b)) (fun i=>some (.int i)) (fun V=>none) (fun V V=>none) (fun s=>some (.str s)) (fun V=>none) none c
def zPr (o:Option Slot):Option D:=bnd o fun s=>Slot.rec (motive:=fun V=>Option D) some (fun V=>none) s
def zPs (o:Option Slot):Option D:=bnd o fun s=>Slot.rec (motive:=fun V=>Option D) some some s
structure Q where
 v:Frm→Option D
 p:Frm→Option D
 t:Frm→Option Bool
 i:Frm→Option (List D)
 l:Frm→Option (List D)
 lp:Frm→Option (List D)
 lo:List Bool→Frm→Option (List D)
 s:Frm→D→Option D
 a:BoolOp→Frm→Option Bool
 b:BoolOp→Frm→Option D
 c:Frm→D→List CmpOp→Option Bool
 g:Frm→Frm→(Frm→Option (List D))→Option (List D)
 n:D→Frm→Option Frm
 nl:List D→Frm→Option Frm
 z:Bool
 o:Frm→Option D
 f:Frm→Option D
noncomputable def noV:Frm→Option D:=fun V=>none
noncomputable def noL:Frm→Option (List D):=fun V=>none
noncomputable def noLo:List Bool→Frm→Option (List D):=fun V V=>none
noncomputable def noT:Frm→Option Bool:=fun V=>none
noncomputable def noS:Frm→D→Option D:=fun V V=>none
noncomputable def noA:BoolOp→Frm→Option Bool:=fun V V=>none
noncomputable def noB:BoolOp→Frm→Option D:=fun V V=>none
noncomputable def noC:Frm→D→List CmpOp→Option Bool:=fun V V V=>none
noncomputable def noG:Frm→Frm→(Frm→Option (List D))→Option (List D):=fun V V V=>none
noncomputable def noN:D→Frm→Option Frm:=fun V V=>none
noncomputable def noNl:List D→Frm→Option Frm:=fun V V=>none
def Q.none:Q:=⟨noV,noV,noT,noL,noL,noL,noLo,noS,noA,noB,noC,noG,noN,noNl,false,noV,noV⟩
def Q.ofV (v:Frm→Option D):Q:=⟨v,v,fun fr=>bnd (v fr) zFR,fun fr=>bnd (v fr) zKS,noL,noL,noLo,fun fr a=>bnd (v fr) (zLO a),noA,noB,noC,noG,noN,noNl,false,noV,noV⟩
def Q.frV (v:Frm→Option D):Q:=⟨v,v,fun fr=>bnd (v fr) zFR,fun fr=>bnd (v fr) zKS,noL,noL,noLo,fun fr a=>bnd (v fr) (zLO a),noA,noB,noC,noG,noN,noNl,false,noV,v⟩
def zQK (b:B):Bool:=B.rec (motive:=fun V=>Bool) false false false false true false false false false false false b
def zMu (items:List D) (f:D→Option (List D)):Option (List D):=List.rec (motive:=fun V=>Option (List D)) (some []) (fun d V ih=>bnd (f d) fun x=>bnd ih fun y=>some (app x y)) items
def andC (o:BoolOp) (c:Bool) (r:Option Bool):Option Bool:=BoolOp.rec (motive:=fun V=>Option Bool) (zAA c r (some false)) (zAA c (some true) r) o
def andV (o:BoolOp) (c:Bool) (d:D) (r:Option D):Option D:=BoolOp.rec (motive:=fun V=>Option D) (zAA c r (some d)) (zAA c (some d) r) o
def looks (b:B):Bool:=B.rec (motive:=fun V=>Bool) true true true true true true true true true false false b
section
variable (gc:Nat→Option D) (call:Nat→List D→Option D)
def Ev (e:E):Q:=
 E.rec (motive:=fun V=>Q)
  {Q.none with l:=fun V=>some [],lp:=fun V=>some [],lo:=fun V V=>some [],a:=fun o V=>BoolOp.rec (motive:=fun V=>Option Bool) (some true) (some false) o,g:=fun V fr k=>k fr,nl:=fun l fr=>onL l (some fr) fun V V=>none,z:=true,o:=fun V=>some .none}
  (fun V V h t=>{Q.none with
   o:=h.v
   l:=fun fr=>bnd (h.v fr) fun d=>bnd (t.l fr) fun ds=>some (d :: ds)
   lp:=fun fr=>bnd (h.p fr) fun d=>bnd (t.l fr) fun ds=>some (d :: ds)
   lo:=fun os fr=>bnd (onL os (h.v fr) fun o V=>zAA o (h.f fr) (h.v fr)) fun d=>bnd (t.lo (onL os [] fun V os=>os) fr) fun ds=>some (d :: ds)
   a:=fun o fr=>bnd (h.t fr) fun c=>andC o c (t.a o fr)
   b:=fun o fr=>bnd (h.v fr) fun d=>zAA t.z (some d) (bnd (zFR d) fun c=>andV o c d (t.b o fr))
   c:=fun fr a ops=>onL ops none fun o os=>bnd (zAA (zLN o) (h.p fr) (h.v fr)) fun b=>bnd (cmpR o a b) fun r=>onL os (some r) fun V V=>zAA (zLN o) none (zAA r (t.c fr b os) (some false))
   g:=fun fo fi k=>h.g fo fi fun fr=>t.g fr fr k
   nl:=fun l fr=>onL l none fun d ds=>bnd (h.n d fr) fun fr=>t.nl ds fr})
  (fun c V V=>Q.ofV fun V=>cstR c)
  (fun x V=>{Q.ofV (fun fr=>zPr (zAE x fr)) with p:=fun fr=>zPs (zAE x fr),n:=fun d fr=>zDL x (.val d) fr some})
  (fun x V=>{Q.ofV (fun V=>bnd (gc x) fun d=>zEJ d (fun V=>none) (some d)) with p:=fun V=>gc x})
  (fun V op V V a b=>Q.frV fun fr=>bnd (a.v fr) fun x=>bnd (b.v fr) fun y=>zJN op x y)
  (fun V V a=>Q.ofV fun fr=>bnd (a.v fr) negR)
  (fun V V a=>{Q.ofV (fun fr=>bnd (a.v fr) fun d=>bnd (zFR d) fun b=>zHp (zEm b)) with t:=fun fr=>zPv (a.t fr)})
  (fun V V V V t b o=>{Q.ofV (fun fr=>bnd (t.t fr) fun c=>zAA c (b.v fr) (o.v fr)) with t:=fun fr=>bnd (t.t fr) fun c=>zAA c (b.t fr) (o.t fr)})
  (fun o V V l=>{Q.ofV (fun fr=>l.b o fr) with t:=fun fr=>l.a o fr})
  (fun V ops V V a l=>{Q.ofV (fun fr=>bnd (a.v fr) fun d=>bnd (l.c fr d ops) zHp) with t:=fun fr=>bnd (a.v fr) fun d=>l.c fr d ops})
  (fun V V V l=>{Q.ofV (fun fr=>bnd (l.l fr) tupR) with n:=fun d fr=>zFV d (fun ds=>l.nl ds fr) none})
  (fun V V l=>Q.frV fun fr=>bnd (l.l fr) zDk)
  (fun V=>{Q.none with p:=fun V=>some (.dict []),f:=fun V=>some (.dict [])})
  (fun V V V v i=>Q.ofV fun fr=>bnd (v.p fr) fun a=>i.s fr a)
  (fun V V V V lo hi st=>{Q.none with s:=fun fr a=>bnd (lo.o fr) fun lo=>bnd (hi.o fr) fun hi=>bnd (st.o fr) fun st=>zHx a lo hi st})
  (fun f V V V l=>{Q.ofV (fun fr=>bnd (l.l fr) fun ds=>zBn ds fun ds=>call f ds) with f:=fun fr=>zAA (Nat.beq f 270) (bnd (l.l fr) fun ds=>zBn ds fun ds=>call f ds) none})
  (fun b V V V l=>{Q.ofV (fun fr=>bnd (l.lp fr) fun ds=>zSk b ds) with i:=fun fr=>bnd (zAA (looks b) (l.lp fr) (l.l fr)) fun ds=>bltI b ds,f:=fun fr=>zAA (zQK b) (bnd (l.lp fr) fun ds=>zSk b ds) none})
  (fun V m V V V o l=>{Q.ofV (fun fr=>bnd (o.p fr) fun a=>bnd (l.l fr) fun ds=>zPx m a ds) with i:=fun fr=>bnd (o.p fr) fun a=>bnd (l.l fr) fun ds=>zLo m a ds})
  (fun V V tg V V e g=>Q.frV fun fr=>bnd (g.g fr (zIT (18 :: tg) fr) fun fr=>bnd (e.v fr) fun d=>some [d]) zDk)
  (fun V V V tg V V k v g=>{Q.none with p:=fun fr=>bnd (g.g fr (zIT (18 :: tg) fr) fun fr=>bnd (k.v fr) fun k=>bnd (v.v fr) fun v=>zAA (isS k) (some [.tuple [k,v]]) none) fun l=>zAA (zAI l) (bnd (zOK l) fun kvs=>some (.dict kvs)) none})
  (fun V V V t i fs=>{Q.none with g:=fun fo fi k=>bnd (i.i fo) fun items=>zMu items fun d=>bnd (t.n d fi) fun fr=>bnd (fs.a .And fr) fun c=>zAA c (k fr) (some [])})
  (fun V=>Q.none) e
inductive Fl where
 | next (fr:Frm)
 | cont (fr:Frm)
 | ret (d:D)
def zKD (f:Fl) (k:Frm→Option Fl):Option Fl:=Fl.rec (motive:=fun V=>Option Fl) k (fun fr=>some (.cont fr)) (fun d=>some (.ret d)) f
def zGW (f:Fl) (k:Frm→Option Fl):Option Fl:=Fl.rec (motive:=fun V=>Option Fl) k k (fun d=>some (.ret d)) f
def zBZ (o:Bool) (d:D):Slot:=zAA o (onD (.val d) (fun V=> .val d) (fun V=> .val d) (fun V=> .val d) (fun V=> .own d) (fun V=> .val d) (fun V=> .own d) d) (.val d)
def zAy (x:Nat) (s:Slot) (fr:Frm):Option Fl:=zDL x s fr fun fr=>some (.next fr)
def zDx (e:E):Option Nat:=E.rec (motive:=fun V=>Option Nat) none (fun V V V V=>none) (fun V V V=>none) (fun x V=>some x) (fun V V=>none) (fun V V V V V V=>none) (fun V V V=>none) (fun V V V=>none)
 (fun V V V V V V V=>none) (fun V V V V=>none) (fun V V V V V V=>none) (fun V V V V=>none) (fun V V V=>none) (fun V=>none) (fun V V V V V=>none) (fun V V V V V V V=>none) (fun V V V V V=>none) (fun V V V V V=>none)
 (fun V V V V V V V=>none) (fun V V V V V V V=>none) (fun V V V V V V V V V=>none) (fun V V V V V V=>none) (fun V=>none) e
def zDw (e:E):List Nat:=E.rec (motive:=fun V=>List Nat) [] (fun h V V it=>Option.rec (motive:=fun V=>List Nat) [] (fun x=>x :: it) (zDx h)) (fun V V V=>[]) (fun V V=>[]) (fun V V=>[]) (fun V V V V V V=>[]) (fun V V V=>[]) (fun V V V=>[])
 (fun V V V V V V V=>[]) (fun V V V V=>[]) (fun V V V V V V=>[]) (fun V V V V=>[]) (fun V V V=>[]) (fun V=>[]) (fun V V V V V=>[]) (fun V V V V V V V=>[]) (fun V V V V V=>[]) (fun V V V V V=>[])
 (fun V V V V V V V=>[]) (fun V V V V V V V=>[]) (fun V V V V V V V V V=>[]) (fun V V V V V V=>[]) (fun V=>[]) e
def zGQ (xs:List Nat) (os:List Bool) (ds:List D) (fr:Frm):Option Fl:=
 List.rec (motive:=fun V=>List Bool→List D→Frm→Option Fl) (fun V ds fr=>onL ds (some (.next fr)) fun V V=>none)
  (fun x V ih os ds fr=>onL ds none fun d ds=>onL os (zDL x (.val d) fr (ih [] ds)) fun o os=>zDL x (zBZ o d) fr (ih os ds)) xs os ds fr
def zEr (x:Nat) (i d:D) (fr:Frm):Option Fl:=bnd (zAE x fr) fun s=>Slot.rec (motive:=fun V=>Option Fl) (fun V=>none)
 (fun a=>onD none (fun V=>none) (fun V=>none) (fun V=>none)
  (fun l=>zAO i (fun i=>Int.rec (motive:=fun V=>Option Fl) (fun n=>zAA (zAI l) (bnd (zJL n d l) fun l=>zAy x (.own (.list l)) fr) none) (fun V=>none) i) none) (fun V=>none)
  (fun kvs=>zAA (zAe i) (zAA (zEq kvs) (zAA (zAI kvs) (zAy x (.own (.dict (zEi i d kvs))) fr) none) none) none) a) s
def zLk {τ:Type} (x:Nat) (fr:Frm) (f:List D→Option τ):Option τ:=bnd (zAE x fr) fun s=>Slot.rec (motive:=fun V=>Option τ) (fun V=>none) (fun a=>zAz a f none) s
def ownD {τ:Type} (x:Nat) (fr:Frm) (f:List (D×D)→Option τ):Option τ:=bnd (zAE x fr) fun s=>Slot.rec (motive:=fun V=>Option τ) (fun V=>none) (fun a=>zEJ a f none) s
def mthR (m:Mth) (x:Nat) (fr:Frm) (ds:List D):Option Fl:=zLk x fr fun l=>
 Mth.rec (motive:=fun V=>Option Fl) none none (zEj ds fun d=>zAA (zAI l) (zAy x (.own (.list (app l [d]))) fr) none)
  (zEj ds fun d=>zAz d (fun m=>zAA (zAI l) (zAA (zAI m) (zAy x (.own (.list (app l m))) fr) none) none) none)
  (zLV ds fun i d=>zAO i (fun i=>Int.rec (motive:=fun V=>Option Fl) (fun n=>zAA (zAI l) (zAA (Nat.ble n (len l)) (zAy x (.own (.list (app (zBk n l) (d :: zEZ n l)))) fr) none) none) (fun V=>none) i) none) m
def zIm {τ:Type} (i:D) (f:Nat→Option τ):Option τ:=zAO i (fun i=>Int.rec (motive:=fun V=>Option τ) f (fun V=>none) i) none
def zOm (t:D→Frm→Option Frm) (body:Frm→Option Fl) (items:List D) (fr:Frm):Option Fl:=
 List.rec (motive:=fun V=>Frm→Option Fl) (fun fr=>some (.next fr)) (fun d V ih fr=>bnd (t d fr) fun fr=>bnd (body fr) fun f=>zGW f ih) items fr
def zGA (test:Frm→Option Bool) (body:Frm→Option Fl) (n:Nat) (fr:Frm):Option Fl:=
 Nat.rec (motive:=fun V=>Frm→Option Fl) (fun V=>none) (fun V ih fr=>bnd (test fr) fun c=>zAA c (bnd (body fr) fun f=>zGW f ih) (some (.next fr))) n fr
structure SQ where
 x:Frm→Option Fl
 xs:Frm→Option Fl
noncomputable def SQ.of (x:Frm→Option Fl):SQ:=⟨x,fun V=>none⟩
def Ex (s:S):SQ:=
 S.rec (motive:=fun V=>SQ)
  ⟨fun V=>none,fun fr=>some (.next fr)⟩
  (fun V V h t=>⟨fun V=>none,fun fr=>bnd (h.x fr) fun f=>zKD f t.xs⟩)
  (fun t e o z V=>SQ.of fun fr=>(fun fr=>zAA o (bnd ((Ev gc call e).f fr) fun d=>bnd (zDx t) fun x=>zAy x (zBZ true d) fr) (bnd ((Ev gc call e).v fr) fun d=>bnd ((Ev gc call t).n d fr) fun fr=>some (.next fr))) (frz z fr))
  (fun ts V V es V V os z V=>SQ.of fun fr=>(fun fr=>bnd ((Ev gc call es).lo os fr) fun ds=>zGQ (zDw ts) os ds fr) (frz z fr))
  (fun x V i V e z V=>SQ.of fun fr=>(fun fr=>bnd ((Ev gc call e).v fr) fun d=>bnd ((Ev gc call i).v fr) fun i=>zEr x i d fr) (frz z fr))
  (fun x V y V V V V=>SQ.of fun fr=>zLk y fr fun l=>zAA (zAI l) (onL (rev l) none fun d r=>zDL y (.own (.list (rev r))) fr fun fr=>zAy x (.val d) fr) none)
  (fun x V y V V k e V V=>SQ.of fun fr=>ownD y fr fun kvs=>bnd ((Ev gc call k).v fr) fun k=>bnd ((Ev gc call e).v fr) fun e=>zAA (zAe k) (zAA (zEq kvs) (zAA (zAI kvs)
   (zDL y (.own (.dict (zKo k kvs))) fr fun fr=>zAy x (.val (Option.rec (motive:=fun V=>D) e (fun d=>d) (zBt k kvs))) fr) none) none) none)
  (fun x V op e V=>SQ.of fun fr=>bnd (zPr (zAE x fr)) fun a=>bnd ((Ev gc call e).v fr) fun b=>zAO a (fun V=>bnd (zJN op a b) fun d=>zAy x (.val d) fr) none)
  (fun x V i V op e V=>SQ.of fun fr=>bnd (zPs (zAE x fr)) fun a=>bnd ((Ev gc call i).v fr) fun i=>bnd (zLO a i) fun a=>bnd ((Ev gc call e).v fr) fun b=>zAO a (fun V=>bnd (zJN op a b) fun d=>zEr x i d fr) none)
  (fun x V m V l V z V=>SQ.of fun fr=>(fun fr=>bnd ((Ev gc call l).l fr) fun ds=>mthR m x fr ds) (frz z fr))
  (fun V V x V i j V V=>SQ.of fun fr=>bnd ((Ev gc call i).v fr) fun i=>bnd ((Ev gc call j).v fr) fun j=>zIm i fun i=>zIm j fun j=>zLk x fr fun l=>zAA (zAI l)
   (bnd (zFW l i) fun a=>bnd (zFW l j) fun b=>bnd (zJL i b l) fun l=>bnd (zJL j a l) fun l=>zAy x (.own (.list l)) fr) none)
  (fun e z V=>SQ.of fun fr=>(fun fr=>bnd ((Ev gc call e).v fr) fun d=>zAi d (some (.next fr)) none) (frz z fr))
  (fun e z V=>SQ.of fun fr=>bnd ((Ev gc call e).o (frz z fr)) fun d=>some (.ret d))
  (fun t V V V b o=>SQ.of fun fr=>bnd ((Ev gc call t).t fr) fun c=>zAA c (b.xs fr) (o.xs fr))
  (fun t V V b=>SQ.of fun fr=>zGA (Ev gc call t).t b.xs 3000 fr)
  (fun t i V z V b=>SQ.of fun fr=>(fun fr=>bnd ((Ev gc call i).i fr) fun items=>zOm (Ev gc call t).n b.xs items (zJB z fr)) (frz z fr))
  (fun V=>SQ.of fun fr=>some (.cont fr))
  (fun V=>SQ.of fun V=>none) s
end
structure Fn where
 params:List Nat
 sc:Scope
 body:S
def args (xs:List Nat) (ds:List D):Option Frm:=
 List.rec (motive:=fun V=>List D→Frm→Option Frm) (fun ds fr=>onL ds (some fr) fun V V=>none) (fun x V ih ds fr=>onL ds none fun d ds=>ih ds ((x, .val d) :: fr)) xs ds []
def outR (f:Fl):Option D:=Fl.rec (motive:=fun V=>Option D) (fun V=>some .none) (fun V=>none) some f
def runF (gc:Nat→Option D) (call:Nat→List D→Option D) (fn:Fn) (ds:List D):Option D:=
 bnd (args fn.params ds) fun fr=>bnd ((Ex gc call fn.body).xs fr) outR
inductive Tr (α:Type) where
 | nil
 | leaf (a:α)
 | node (k:Nat) (l r:Tr α)
def Tr.at {α:Type} (t:Tr α) (i:Nat):Option α:=Tr.rec (motive:=fun V=>Option α) none some (fun k V V il ir=>zAA (Nat.blt i k) il ir) t
end
noncomputable abbrev P (a b c d:Nat):Pos:=⟨a,b,c,d⟩
noncomputable def zFY:List Str:=(["a","b","abs","gcd","found","many","step","n","bits_of","number","numbers","gcd_all","begin","least_divisor","prime","prime_factors","one","times",".0","range","sorted","divisors","bottom","g","top","CasFail","rat","radd","rsub","rmul","rdiv","rneg","rinv","off","rcompare","ris_whole","told","t_num","name","t_sym","some_terms","T_ZERO","len","tuple","t_sum","T_ONE","t_prod","base","exponent","t_pow","term","is_num","num_of","is_whole_num","kind","list","inner_terms","waiting","here","all_terms","free_letters","contains_letter","other","sign_between","compare_values","factor","bare_factors","base_and_exponent","at","ones","others","compare_terms","min","compare_rows","compare_exponents","RANKS","compare_bases","other_base","other_exponent","compare_factors","front_value","spot","is_first","merged_terms","middle","sort_terms","r","number_term","t","ONE","rest","number_and_rest","with_number","part","parts","flat_parts","counts","gathered_sum","ZERO","is_one_call","EXP_ONE","as_power","exponents","is_done","made","power_of","gathered_product","call_of","number_power","split_power","simplify","sum_parts","max","greatest_bits","left","right","MOST_PRODUCTS","bits","MOST_BITS","there","mul_out","sum","mul_all_out","power_out","MOST_POWER_expand","MINUS_ONE","is_too_great","MOST_LEVELS","MOST_TERMS","expand_power","expand_once","ahead","expand","size","row","ztrim","p","zdegree","zlead","zadd","zneg","zsub","k","zscale","zraise","enumerate","zmul","zcontent","zdivided","content","zprimitive","power","zderive","reversed","zat","low","zshift","qtrim","qdegree","R0","qlead","qadd","qneg","qsub","qscale","qraise","qmul","R1","turn","qpower","lower","qdivmod","qmonic","qgcd","qcompose","q","whole","to_z","F0","common","scale","fmake","fnumber","f","fadd","fmul","finv","fdiv","F1","fpower","whole_exponent","is_number","far","MOST_POWER_fterms","rpower","far_power","is_rational","all","from_rational","from_term","rat_term","some","letter","poly_term","T_MINUS","to_term","in_letter","check_bottom","zexact","first","more","pseudo","zpseudo_rest","coefficient","divided","quotient","lacking","full_rest","h","gap","sign","row_resultant","shared","resultant","height","front","next_height","subresultants","only","last","zgcd","sign_of","x","value_sign","simple_part","linear_of","tried_roots","sorted_roots","rational_roots","MOST_DIVIDED","candidates","lead","interval","high","isolate","refine","rfloor","met","bottoms","pair","pairs","first_differences","differences","place","zeros_on","below","told_by","MOST_WALKED","MOST_TOLD","MOST_NUMBERS","whole_zeros","sizes","roots_within","most","MOST_WORK","dispersions","shape","is_right","text","need_shape","copied","swap_rows","pivots","column","spots","take_off","echelon","reduced","null_base","width","solve_system","moved","c","MOST_DEGREE","str","parted","coefficient_at","least","most_degree","difference_of","columns","rows","trimmed","key_solution","ratio","back","gosper","power_in","collect","MOST_RATIO","rational_ratio","ratio_of","MOST_POWER_sums","linear_parts","power_ratio","product_ratio","factorial_ratio","fpoly","power_sum","polynomial_form","certificate","rational","summed_form","pieces","wrong","indefinite_sum","_law_value","box","_law_take","work","_law_told","script","form","apart","lines","_law_n","line","later","under","int","law"]:List String).map Str.ofString
def nm (i:Nat):Str:=match zFY[i]? with | some s=>s | none=>⟨#[2000000 + i]⟩
noncomputable abbrev sc (n:List (Str×NameKind)) (m:List (Str×Const)):Scope:=⟨.function,n,false,false,m⟩
abbrev s0 (n:List (Str×NameKind)):Scope:=sc n []
abbrev sf (n:List (Str×NameKind)) (m:List Nat):Scope:=sc n (m.map fun i=>("fast", .str (nm i)))
namespace K
section
noncomputable abbrev p (a w l:Nat):Pos:=⟨l,a,l,a + w⟩
abbrev X:=Nat→E
abbrev el (x:List X) (l:Nat):E:=x.rec .nil fun h V t=> .cons (h l) t
abbrev sl' (x:List S):S:=x.rec .nil fun h V t=> .cons h t
abbrev v (x a w l:Nat):E:= .var x (p a w l)
abbrev g (x a w l:Nat):E:= .glb x (p a w l)
abbrev q (c:Const) (a w l:Nat):E:= .cst c 0 (p a w l)
abbrev i (n:Int) (a w l:Nat):E:= .cst (.int n) 0 (p a w l)
abbrev t (s:Str) (a w l:Nat):E:= .cst (.str s) 0 (p a w l)
abbrev b (x:X) (o:Operator) (y:X) (a w l:Nat):E:= .bin (x l) o (y l) (p a w l)
abbrev n (x:X) (a w l:Nat):E:= .neg (x l) (p a w l)
abbrev nt (x:X) (a w l:Nat):E:= .nott (x l) (p a w l)
abbrev e (x y z:X) (a w l:Nat):E:= .ite (x l) (y l) (z l) (p a w l)
abbrev d (o:BoolOp) (x:List X) (a w l:Nat):E:= .boo o (el x l) (p a w l)
abbrev m (x:X) (o:List CmpOp) (y:List X) (a w l:Nat):E:= .cmp (x l) o (el y l) (p a w l)
abbrev m1 (x:X) (o:CmpOp) (y:X) (a w l:Nat):E:= .cmp (x l) [o] (.cons (y l) .nil) (p a w l)
abbrev u (x:List X) (a w l:Nat):E:= .tup (el x l) 0 (p a w l)
abbrev s (x:List X) (a w l:Nat):E:= .lst (el x l) (p a w l)
abbrev dc (a w l:Nat):E:= .dct (p a w l)
abbrev x (y z:X) (a w l:Nat):E:= .sub (y l) (z l) (p a w l)
abbrev sl (x y z:List X) (a w l:Nat):E:= .slc (el x l) (el y l) (el z l) (p a w l)
abbrev k (f a w z:Nat) (x:List X) (l:Nat):E:= .call f (p a w l) (el x l) (p a z l)
abbrev w (f:B) (a w z:Nat) (x:List X) (l:Nat):E:= .blt f (p a w l) (el x l) (p a z l)
abbrev mt (y:X) (f:Mth) (a w:Nat) (x:List X) (c z l:Nat):E:= .meth (y l) f (p a w l) (el x l) (p c z l)
abbrev ge (x y:X) (z:List X) (l:Nat):E:= .gen (x l) (y l) (el z l)
abbrev lc (y:X) (x:List X) (z:List Nat) (s:List (Str×NameKind)) (a w l:Nat):E:= .lco (y l) (el x l) z (sc s []) (p a w l)
abbrev dk (y y':X) (x:List X) (z:List Nat) (s:List (Str×NameKind)) (a w l:Nat):E:= .dco (y l) (y' l) (el x l) z (sc s []) (p a w l)
noncomputable abbrev r (e:Expr) (_l:Nat):E:= .raw e
abbrev A (x y:X) (a w l:Nat):S:= .asg (x l) (y l) false [] (p a w l)
abbrev A2 (x y:X) (o:Bool) (z:List Nat) (a w l:Nat):S:= .asg (x l) (y l) o z (p a w l)
abbrev R (x:List X) (a w l:Nat):S:= .ret (el x l) [] (p a w l)
abbrev R2 (x:List X) (z:List Nat) (a w l:Nat):S:= .ret (el x l) z (p a w l)
abbrev I (x:X) (y z:List S) (l a c d:Nat):S:= .iff (x l) (sl' y) (sl' z) ⟨l,a,c,d⟩
abbrev W (x:X) (y:List S) (l a c d:Nat):S:= .whl (x l) (sl' y) ⟨l,a,c,d⟩
abbrev F (x x':X) (y:List S) (z:List Nat) (l a c d:Nat):S:= .fr (x l) (x' l) (sl' y) z ⟨l,a,c,d⟩
abbrev T (x:List X) (a w:Nat) (y:List X) (a' w':Nat) (o:List Bool) (z:List Nat) (a2 w2 l:Nat):S:= .asgT (el x l) 0 (p a w l) (el y l) 0 (p a' w' l) o z (p a2 w2 l)
noncomputable abbrev o:=Str.ofString
abbrev l (x:List Nat):List (Str×NameKind):=x.map fun i=>(nm i, .local)
abbrev h (x:List Nat):List (Str×NameKind):=x.map fun i=>(nm i, .globalImplicit)
abbrev c (x:List Nat):List (Str×NameKind):=x.map fun i=>(nm i, .cell)
abbrev f (x:List Nat):List (Str×NameKind):=x.map fun i=>(nm i, .free)
end
end K
namespace L
section
abbrev X:=Nat→Nat→E×Nat
abbrev Y:=Nat→Nat→S×Nat×Nat
noncomputable def wdTab:List Nat:=[1,1,3,3,5,4,4,1,7,6,7,7,5,13,5,13,3,5,2,5,6,8,6,1,3,7,3,4,4,4,4,4,4,3,8,9,4,5,4,5,10,6,3,5,5,5,6,4,8,5,4,6,6,12,4,4,11,7,4,9,12,15,5,12,14,6,12,17,2,4,6,13,3,12,17,5,13,10,14,15,11,4,8,12,6,10,1,11,1,3,4,15,11,4,5,10,6,12,4,11,7,8,9,7,4,8,16,7,12,11,8,9,3,13,4,5,13,4,9,5,7,3,11,9,17,9,12,11,10,12,11,5,6,4,3,5,1,7,5,4,4,4,1,6,6,9,4,8,8,7,10,5,7,8,3,3,6,5,7,2,5,4,4,4,6,6,4,2,4,6,5,7,6,4,8,1,5,4,2,6,5,5,7,1,4,4,4,4,2,6,14,9,3,17,6,9,11,3,13,9,8,4,6,9,7,7,9,12,6,5,4,6,12,11,7,8,7,9,1,3,4,13,6,9,6,5,11,13,4,4,4,7,1,10,11,9,11,12,14,12,10,4,8,4,7,6,6,3,7,4,5,17,11,5,8,5,7,11,9,12,11,5,12,4,9,11,5,8,4,10,6,9,6,6,5,8,7,7,9,5,12,5,1,11,3,6,14,5,11,13,7,4,7,12,5,4,6,8,7,10,14,8,15,12,11,13,15,5,9,15,11,8,11,6,5,14,10,3,9,4,9,6,4,5,5,6,4,5,5,3,3]
def wd (i:Nat):Nat:=(wdTab[i]?).getD 0
noncomputable def dg (n:Nat):Nat:=if n < 10 then 1 else if n < 100 then 2 else if n < 1000 then 3 else if n < 10000 then 4 else if n < 100000 then 5 else 6
noncomputable abbrev P (l a e:Nat):Pos:=⟨l,a,l,e⟩
def es (s:Nat) (x:List X) (l:Nat):Nat→E×Nat:=x.rec (fun c=>(.nil,c)) fun h t r c=>let a:=h l c; let q:=r (a.2 + s); (.cons a.1 q.1,t.rec a.2 fun V V V=>q.2)
noncomputable def j (x:X):X:=fun l c=>let a:=x l (c + 1); (a.1,a.2 + 1)
def v (x:Nat):X:=fun l c=>let e:=c + wd x; (.var x (P l c e),e)
def g (x:Nat):X:=fun l c=>let e:=c + wd x; (.glb x (P l c e),e)
def q (k:Const) (w:Nat):X:=fun l c=>let e:=c + w; (.cst k 0 (P l c e),e)
def i (n:Nat):X:=q (.int n) (dg n)
def t (s:Str) (w:Nat):X:=q (.str s) w
def y (x:Nat):X:=q (.str (nm x)) (wd x + 2)
def b (x:X) (o:Operator) (w:Nat) (y:X):X:=fun l c=>let a:=x l c; let d:=y l (a.2 + w); (.bin a.1 o d.1 (P l c d.2),d.2)
def ba (x y:X):X:=b x .Add 3 y
def bs (x y:X):X:=b x .Sub 3 y
def bm (x y:X):X:=b x .Mult 3 y
def n (x:X):X:=fun l c=>let a:=x l (c + 1); (.neg a.1 (P l c a.2),a.2)
def nt (x:X):X:=fun l c=>let a:=x l (c + 4); (.nott a.1 (P l c a.2),a.2)
def e (t y z:X):X:=fun l c=>let a:=y l c; let d:=t l (a.2 + 4); let f:=z l (d.2 + 6); (.ite d.1 a.1 f.1 (P l c f.2),f.2)
def an (x:List X):X:=fun l c=>let a:=es 5 x l c; (.boo .And a.1 (P l c a.2),a.2)
def or (x:List X):X:=fun l c=>let a:=es 4 x l c; (.boo .Or a.1 (P l c a.2),a.2)
def m (o:CmpOp) (w:Nat) (x y:X):X:=fun l c=>let a:=x l c; let d:=y l (a.2 + w); (.cmp a.1 [o] (.cons d.1 .nil) (P l c d.2),d.2)
def me (x y:X):X:=m .Eq 4 x y
def mn (x y:X):X:=m .NotEq 4 x y
def mg (x y:X):X:=m .Gt 3 x y
def mm (x:X) (o:List CmpOp) (w:Nat) (y:List X):X:=fun l c=>let a:=x l c; let d:=es w y l (a.2 + w); (.cmp a.1 o d.1 (P l c d.2),d.2)
def u (x:List X):X:=fun l c=>let a:=es 2 x l (c + 1); let e:=a.2 + 1; (.tup a.1 0 (P l c e),e)
def u1 (x:X):X:=fun l c=>let a:=x l (c + 1); let e:=a.2 + 2; (.tup (.cons a.1 .nil) 0 (P l c e),e)
def uu (x:List X):X:=fun l c=>let a:=es 2 x l c; (.tup a.1 0 (P l c a.2),a.2)
def s (x:List X):X:=fun l c=>let a:=es 2 x l (c + 1); let e:=a.2 + 1; (.lst a.1 (P l c e),e)
def dc:X:=fun l c=>let e:=c + 2; (.dct (P l c e),e)
def x (y z:X):X:=fun l c=>let a:=y l c; let d:=z l (a.2 + 1); let e:=d.2 + 1; (.sub a.1 d.1 (P l c e),e)
def z (y:X) (k:Nat):X:=x y (i k)
def sl (x y:List X):X:=fun l c=>let a:=es 2 x l c; let d:=es 2 y l (a.2 + 1); (.slc a.1 d.1 .nil (P l c d.2),d.2)
def k (f:Nat) (x:List X):X:=fun l c=>let w:=c + wd f; let a:=es 2 x l (w + 1); let e:=a.2 + 1; (.call f (P l c w) a.1 (P l c e),e)
def w (f:B) (w:Nat) (x:List X):X:=fun l c=>let a:=es 2 x l (c + w); let e:=a.2 + 1; (.blt f (P l c (c + w - 1)) a.1 (P l c e),e)
def mt (y:X) (f:Mth) (w:Nat) (x:List X):X:=fun l c=>let o:=y l c; let d:=o.2 + w; let a:=es 2 x l d; let e:=a.2 + 1; (.meth o.1 f (P l c (d - 1)) a.1 (P l c e),e)
def gf (x y:X) (z:List X):X:=fun l c=>let a:=x l (c + 5); let d:=y l (a.2 + 4); let f:=es 2 z l (d.2 + 4); (.gen a.1 d.1 f.1,z.rec d.2 fun V V V=>f.2)
def ge (x y:X):X:=gf x y []
def lc (y:X) (x:List X) (z:List Nat) (s:List (Str×NameKind)):X:=fun l c=>let a:=y l (c + 1); let d:=es 0 x l a.2; let e:=d.2 + 1; (.lco a.1 d.1 z (sc s []) (P l c e),e)
def dk (y y':X) (x:List X) (z:List Nat) (s:List (Str×NameKind)):X:=fun l c=>let a:=y l (c + 1); let b:=y' l (a.2 + 2); let d:=es 0 x l b.2; let e:=d.2 + 1; (.dco a.1 b.1 d.1 z (sc s []) (P l c e),e)
noncomputable def r (e:Expr) (d:Nat):X:=fun V V=>(.raw e,d)
def ys (x:List Y) (c:Nat):Nat→S×Nat×Nat:=x.rec (fun l=>(.nil,l,c)) fun h t r l=>let a:=h l c; let q:=r (a.2.1 + 1); (.cons a.1 q.1,t.rec a.2 fun V V V=>q.2)
abbrev st (s:Pos→S) (l c e:Nat):S×Nat×Nat:=(s (P l c e),l,e)
noncomputable abbrev cp (s:Pos→S) (l c:Nat) (e:Nat×Nat):S×Nat×Nat:=(s ⟨l,c,e.1,e.2⟩,e)
def A2 (x y:X) (o:Bool) (z:List Nat):Y:=fun l c=>let a:=x l c; let d:=y l (a.2 + 3); st (.asg a.1 d.1 o z) l c d.2
def AA (x y:X):Y:=A2 x y false []
def A (x:Nat) (y:X):Y:=AA (v x) y
def R2 (x:List X) (z:List Nat):Y:=fun l c=>let a:=es 2 x l (c + 7); st (.ret a.1 z) l c (x.rec (c + 6) fun V V V=>a.2)
def R (x:X):Y:=R2 [x] []
def I' (k:Nat) (x:X) (y:List Y):Y:=fun l c=>let a:=x l (c + k); let b:=ys y (c + 4) (l + 1); cp (.iff a.1 b.1 .nil) l c b.2
def Io' (k:Nat) (x:X) (y z:List Y):Y:=fun l c=>let a:=x l (c + k); let b:=ys y (c + 4) (l + 1); let d:=ys z (c + 4) (b.2.1 + 2); cp (.iff a.1 b.1 d.1) l c d.2
def Ie' (k:Nat) (x:X) (y:List Y) (z:Y):Y:=fun l c=>let a:=x l (c + k); let b:=ys y (c + 4) (l + 1); let d:=z (b.2.1 + 1) c; cp (.iff a.1 b.1 (.cons d.1 .nil)) l c d.2
abbrev I:=I' 3
abbrev J:=I' 5
abbrev Io:=Io' 3
abbrev Jo:=Io' 5
abbrev Ie:=Ie' 3
abbrev Je:=Ie' 5
def W (x:X) (y:List Y):Y:=fun l c=>let a:=x l (c + 6); let b:=ys y (c + 4) (l + 1); cp (.whl a.1 b.1) l c b.2
def FF (x x':X) (y:List Y) (z:List Nat):Y:=fun l c=>let a:=x l (c + 4); let d:=x' l (a.2 + 4); let b:=ys y (c + 4) (l + 1); cp (.fr a.1 d.1 b.1 z) l c b.2
def F (x x':X) (y:List Y):Y:=FF x x' y []
def TT (x y:List X) (o:List Bool) (z:List Nat):Y:=fun l c=>let a:=es 2 x l c; let d:=es 2 y l (a.2 + 4); let e:=d.2 + 1; st (.asgT a.1 0 (P l c a.2) d.1 0 (P l (a.2 + 3) e) o z) l c e
def T (x y:List X):Y:=TT x y [false,false] []
def Bq (x:Nat) (o:Operator) (w:Nat) (y:X):Y:=fun l c=>let a:=c + wd x; let d:=y l (a + w); st (.augN x (P l c a) o d.1) l c d.2
def M (x:Nat) (f:Mth) (w:Nat) (y:List X) (z:List Nat):Y:=fun l c=>let a:=c + wd x; let d:=es 2 y l (a + w + 1); let e:=d.2 + 1; st (.mth x (P l c a) f (P l c (a + w)) d.1 (P l c e) z) l c e
def Cq (x:Nat) (y y':X) (z:List Nat):Y:=fun l c=>let a:=c + wd x; let d:=y l (a + 1); let e:=d.2 + 1; let f:=y' l (e + 3); st (.asgS x (P l c a) d.1 (P l c e) f.1 z) l c f.2
def co:Y:=fun l c=>st .cont l c (c + 8)
noncomputable def ol (s:S) (a b:Nat):Y:=fun V V=>(s,a,b)
def ra (s:Str) (w:Nat) (t:Str) (w':Nat):Y:=fun l c=>let d:=c + 14 + w; let e:=d + 2 + w'; st (fun p=> .raw (.Raise (some (.Call (.Name "CasFail" (P l (c + 6) (c + 13))) [.Constant (.str s) 0 (P l (c + 14) d), .Constant (.str t) 0 (P l (d + 2) e)] [] (P l (c + 6) (e + 1)))) none p)) l c (e + 1)
def ru (l:Nat) (x:List Y):S:=(ys x 4 l).1
abbrev l:=K.l
abbrev h:=K.h
abbrev c:=K.c
abbrev f:=K.f
end
end L
section
open K
def q0:S:= .popL 58 (p 8 4 118) 57 (p 15 7 118) (p 15 11 118) (p 15 13 118) (p 8 20 118)
def q1:S:= .mth 57 (p 8 7 120) .extend (p 8 14 120) (el [x (k 56 23 11 17 [v 58 35 4]) (sl [] [] [n (i 1 44 1) 43 2] 41 4) 23 23] 120) (p 8 39 120) [] (p 8 39 120)
def q2:S:= .popD 9 (p 4 6 250) 96 (p 13 6 250) (p 13 10 250) (g 89 24 3 250) (u [i 0 30 1,i 1 33 1] 29 6 250) (p 13 23 250) (p 4 32 250)
def q3:S:= .augS 4 (p 16 5 536) (b (v 16 22 3) .Add (v 62 28 5) 22 11 536) (p 16 18 536) .Add (b (v 114 38 4) .Mult (v 115 45 5) 38 12 536) (p 16 34 536)
def q4:S:= .augS 4 (p 12 5 558) (v 68 18 2 558) (p 12 9 558) .Add (b (v 7 25 1) .Mult (x (v 4 29 5) (b (v 68 35 2) .Add (i 1 40 1) 35 6) 29 13) 25 17 558) (p 12 30 558)
def q5:S:= .exp (k 207 4 12 15 [v 1 17 1] 715) [] (p 4 15 715)
def q6:S:= .exp (k 207 4 12 15 [v 1 17 1] 725) [] (p 4 15 725)
def q7:S:= .augS 134 (p 12 3 959) (v 68 16 2 959) (p 12 7 959) .Add (x (v 134 23 3) (b (v 68 27 2) .Add (i 1 32 1) 27 6) 23 11 959) (p 12 22 959)
def q8:S:= .raw (.Raise (exc:=some (.Call (func:=.Name "CasFail" (p 14 7 972)) (args:=[.Constant (.str "limit") 0 (p 22 7 972),.Constant (value:=.str "roots of too many polynomials that may lie too far apart") (k:=0) (pos:=(p 31 58 972))]) (keywords:=[]) (pos:=(p 14 76 972)))) (cause:=none) (pos:=(p 8 82 972)))
def q9:S:= .raw (.Raise (exc:=some (.Call (func:=.Name "CasFail" (p 14 7 995)) (args:=[.Constant (.str "shape") 0 (p 22 7 995),.Name "text" (p 31 4 995)]) (keywords:=[]) (pos:=(p 14 22 995)))) (cause:=none) (pos:=(p 8 28 995)))
def q10:S:= .swp 271 (p 8 9 1009) 4 (p 18 5 1009) (v 134 25 3 1009) (x (v 274 30 5) (i 0 36 1) 30 8 1009) (p 8 31 1009) (p 8 31 1009)
def q11:S:= .exp (r (.Call (func:=.Name "take_off" (p 16 8 1014)) (args:=[.Name "found" (p 25 5 1014),.Name "other" (p 32 5 1014),.Name "row" (p 39 3 1014),.Subscript (value:=.Subscript (value:=.Name "found" (p 44 5 1014)) (slice:=.Name "other" (p 50 5 1014)) (pos:=(p 44 12 1014))) (slice:=.Name "column" (p 57 6 1014)) (pos:=(p 44 20 1014))]) (keywords:=[]) (pos:=(p 16 49 1014))) 1014) [4] (p 16 49 1014)
def q12:S:= .exp (k 269 4 10 66 [m1 (w .len 15 3 6 [v 0 19 1]) .Eq (w .len 25 3 6 [v 1 29 1]) 15 16,t "as many numbers as rows are wanted" 33 36] 1031) [] (p 4 66 1031)
def q13:S:=R [e (m (i 0 23 1) [.LtE,.Lt] [v 151 28 5,w .len 36 3 6 [v 136 40 1]] 23 19) (x (v 136 11 1) (v 151 13 5) 11 8) (g 159 48 2) 11 39] 4 46 1056
def q14:S:= .raw (.Raise (exc:=some (.Call (func:=.Name "CasFail" (p 14 7 1073)) (args:=[.Constant (.str "limit") 0 (p 22 7 1073),.BinOp (left:=.Constant (value:=.str "a sum whose certificate may be of a degree above ") (k:=0) (pos:=(p 31 51 1073))) (op:=.Add) (right:=.Call (func:=.Name "str" (p 85 3 1073)) (args:=[.Name "MOST_DEGREE" (p 89 11 1073)]) (keywords:=[]) (pos:=(p 85 16 1073))) (pos:=(p 31 70 1073))]) (keywords:=[]) (pos:=(p 14 88 1073)))) (cause:=none) (pos:=(p 8 94 1073)))
def q15:S:= .raw (.Raise (exc:=some (.Call (func:=.Name "CasFail" (p 14 7 1173)) (args:=[.Constant (.str "limit") 0 (p 22 7 1173),.BinOp (left:=.Constant (.str "a sum of powers above ") 0 (p 31 24 1173)) (op:=.Add) (right:=.Call (func:=.Name "str" (p 58 3 1173)) (args:=[.Name "MOST_POWER_sums" (p 62 15 1173)]) (keywords:=[]) (pos:=(p 58 20 1173))) (pos:=(p 31 47 1173))]) (keywords:=[]) (pos:=(p 14 65 1173)))) (cause:=none) (pos:=(p 8 71 1173)))
def Fb271:S:=sl' [.raw (.Assign (targets:=[.Tuple (elts:=[.Subscript (value:=.Name "a" (p 4 1 999)) (slice:=.Name "one" (p 6 3 999)) (pos:=(p 4 6 999)),.Subscript (value:=.Name "a" (p 12 1 999)) (slice:=.Name "other" (p 14 5 999)) (pos:=(p 12 8 999))]) (k:=0) (pos:=(p 4 16 999))]) (value:=.Tuple (elts:=[.Subscript (value:=.Name "a" (p 24 1 999)) (slice:=.Name "other" (p 26 5 999)) (pos:=(p 24 8 999)),.Subscript (value:=.Name "a" (p 34 1 999)) (slice:=.Name "one" (p 36 3 999)) (pos:=(p 34 6 999))]) (k:=0) (pos:=(p 23 18 999))) (pos:=(p 4 37 999)))]
def Fb285:S:=sl' [T [v 0 4 1,v 1 7 1,v 282 10 1] 4 7 [v 24 15 3,v 22 20 6,s [g 167 29 2] 28 4] 14 19 [false,false,false] [] 4 29 1045,F (v 218 8 1) (k 265 13 11 35 [x (k 177 25 4 7 [v 0 30 1]) (i 0 33 1) 25 10,x (k 177 37 4 7 [v 1 42 1]) (i 0 45 1) 37 10]) [A (v 23 8 1) (k 173 12 4 20 [v 0 17 1,k 281 20 5 11 [v 1 26 1,v 218 29 1]]) 8 24 1047,I (m1 (b (v 218 11 1) .Mult (k 158 15 7 10 [v 23 23 1]) 11 14) .Gt (g 283 28 11) 11 28) [.raw (.Raise (exc:=some (.Call (func:=.Name "CasFail" (p 18 7 1049)) (args:=[.Constant (.str "limit") 0 (p 26 7 1049),.BinOp (left:=.Constant (.str "a sum whose certificate has a degree above ") 0 (p 35 45 1049)) (op:=.Add) (right:=.Call (func:=.Name "str" (p 83 3 1049)) (args:=[.Name "MOST_DEGREE" (p 87 11 1049)]) (keywords:=[]) (pos:=(p 83 16 1049))) (pos:=(p 35 64 1049))]) (keywords:=[]) (pos:=(p 18 82 1049)))) (cause:=none) (pos:=(p 12 88 1049)))] [] 1048 8 1049 100,I (m1 (k 158 11 7 10 [v 23 19 1]) .Gt (i 0 24 1) 11 14) [T [v 0 12 1,v 1 15 1] 12 4 [x (k 171 20 7 13 [v 0 28 1,v 23 31 1]) (i 0 34 1) 20 16,x (k 171 38 7 24 [v 1 46 1,k 281 49 5 12 [v 23 55 1,n (v 218 59 1) 58 2]]) (i 0 63 1) 38 27] 19 47 [false,false] [] 12 54 1051,F (v 6 16 4) (w .range 24 5 15 [i 1 30 1,b (v 218 33 1) .Add (i 1 37 1) 33 5]) [A (v 282 16 1) (k 166 20 4 24 [v 282 25 1,k 281 28 5 15 [v 23 34 1,n (v 6 38 4) 37 5]]) 16 28 1053] [] 1052 12 1053 44] [] 1050 8 1053 44] [] 1046 4 1053 44,R [u [v 0 12 1,v 1 15 1,v 282 18 1] 11 9] 4 16 1054]
def Fb296:S:=sl' [A (u [v 0 4 1,v 1 7 1,v 282 10 1] 4 7) (k 285 14 6 26 [x (v 294 21 5) (i 0 27 1) 21 8,x (v 294 31 5) (i 1 37 1) 31 8]) 4 36 1085,A (v 295 4 4) (k 281 11 5 12 [v 1 17 1,n (i 1 21 1) 20 2]) 4 19 1086,A (v 232 4 1) (k 293 8 12 24 [v 0 21 1,v 295 24 4,v 282 30 1]) 4 28 1087,R [e (m1 (v 232 19 1) .Is (q .none 24 4) 19 9) (q .none 11 4) (k 181 34 5 23 [k 166 40 4 13 [v 295 45 4,v 232 51 1],v 282 55 1]) 11 46] 4 53 1088]
def Fb312:S:=sl' [A (v 4 4 5) (k 309 12 15 24 [v 88 28 1,v 38 31 4]) 4 32 1176,I (m1 (v 4 7 5) .IsNot (q .none 20 4) 7 17) [R [v 4 15 5] 8 12 1178] [] 1177 4 1178 20,A (v 294 4 5) (k 301 12 8 17 [v 88 21 1,v 38 24 4]) 4 25 1179,A (v 310 4 11) (e (m1 (v 294 26 5) .Is (q .none 35 4) 26 13) (q .none 18 4) (k 296 45 6 13 [v 294 52 5]) 18 40) 4 54 1180,I (m1 (v 310 7 11) .Is (q .none 22 4) 7 19) [R [q .none 15 4] 8 11 1182] [] 1181 4 1182 19,T [v 311 4 8,v 70 14 6] 4 16 [g 188 24 2,s [] 28 2] 23 8 [false,true] [] 4 27 1183,F (v 93 8 4) (e (m1 (x (v 88 24 1) (i 0 26 1) 24 4) .Eq (t "prod" 32 6) 24 14) (x (v 88 16 1) (i 1 18 1) 16 4) (u [v 88 45 1] 44 4) 16 32) [A (v 16 8 3) (k 199 14 9 21 [v 93 24 4,v 38 30 4]) 8 27 1185,I (m1 (v 16 11 3) .Is (q .none 18 4) 11 11) [.mth 70 (p 12 6 1187) .append (p 12 13 1187) (el [v 93 26 4] 1187) (p 12 19 1187) [] (p 12 19 1187)] [A (v 311 12 8) (k 185 23 4 19 [v 311 28 8,v 16 38 3]) 12 30 1189] 1186 8 1189 42] [] 1184 4 1189 42,R2 [k 46 11 6 63 [b (s [k 206 19 9 44 [k 185 29 4 27 [v 310 34 11,v 311 47 8],v 38 58 4]] 18 46) .Add (v 70 67 6) 18 55]] [70] 4 70 1190]
def Fb315:S:=sl' [A (v 88 4 1) (k 110 8 8 11 [v 88 17 1]) 4 15 1192,.raw (.Try (body:=[.Assign (targets:=[.Name "found" (p 8 5 1194)]) (value:=.Call (func:=.Name "summed_form" (p 16 11 1194)) (args:=[.Name "t" (p 28 1 1194),.Name "name" (p 31 4 1194)]) (keywords:=[]) (pos:=(p 16 20 1194))) (pos:=(p 8 28 1194))]) (handlers:=[.ExceptHandler (type:=some (.Name "CasFail" (p 11 7 1195))) (name:=some "wrong") (body:=[.If (test:=.BoolOp (op:=.Or) (values:=[.Compare (left:=.Attribute (.Name "wrong" (p 11 5 1196)) "kind" (p 11 10 1196)) (ops:=[.NotEq]) (comparators:=[.Constant (.str "limit") 0 (p 25 7 1196)]) (pos:=(p 11 21 1196)),.Compare (left:=.Call (func:=.Name "collect" (p 36 7 1196)) (args:=[.Name "t" (p 44 1 1196),.Name "name" (p 47 4 1196)]) (keywords:=[]) (pos:=(p 36 16 1196))) (ops:=[.IsNot]) (comparators:=[.Constant .none 0 (p 60 4 1196)]) (pos:=(p 36 28 1196)),.Compare (left:=.Call (func:=.Name "len" (p 68 3 1196)) (args:=[.Call (func:=.Name "sum_parts" (p 72 9 1196)) (args:=[.Call (func:=.Name "expand" (p 82 6 1196)) (args:=[.Name "t" (p 89 1 1196)]) (keywords:=[]) (pos:=(p 82 9 1196))]) (keywords:=[]) (pos:=(p 72 20 1196))]) (keywords:=[]) (pos:=(p 68 25 1196))) (ops:=[.Eq]) (comparators:=[.Constant (.int 1) 0 (p 97 1 1196)]) (pos:=(p 68 30 1196))]) (pos:=(p 11 87 1196))) (body:=[.Raise (some (.Name "wrong" (p 18 5 1197))) none (p 12 11 1197)]) (orelse:=[]) (pos:=⟨1196,8,1197,23⟩),.Assign (targets:=[.Name "found" (p 8 5 1198)]) (value:=.Constant .none 0 (p 16 4 1198)) (pos:=(p 8 12 1198))]) (pos:=⟨1195,4,1198,20⟩)]) (orelse:=[]) (finalbody:=[]) (pos:=⟨1193,4,1198,20⟩)),I (m1 (v 4 7 5) .IsNot (q .none 20 4) 7 17) [R [k 110 15 8 15 [v 4 24 5]] 8 22 1200] [] 1199 4 1200 30,A (v 313 4 6) (lc (k 312 14 11 23 [v 93 26 4,v 38 32 4]) [ge (v 93 42 4) (k 111 50 9 20 [k 132 60 6 9 [v 88 67 1]]) []] [93] (l [18,93]++h [312]++f [38]) 13 58) 4 67 1201,R [e (m1 (q .none 19 4) .In (v 313 27 6) 19 14) (q .none 11 4) (k 110 39 8 23 [k 44 48 5 13 [v 313 54 6]]) 11 51] 4 58 1202]
def Fs3:Scope:=s0 (l [0,1]++h [2])
def Fs8:Scope:=s0 (l [7,4,5,6])
def Fs11:Scope:=s0 (l [10,4,9]++h [3])
def Fs13:Scope:=s0 (l [7,12,4])
def Fs15:Scope:=s0 (l [7,4,14,5]++h [13])
def Fs21:Scope:=sf (l [7,4]++c [14,5]++h [15,2,20]) [7,4,14,5,16,17]
def Fs26:Scope:=s0 (l [24,22,23]++h [25,3])
def Fs27:Scope:=s0 (l [0,1]++h [26])
def Fs28:Scope:=s0 (l [0,1]++h [26])
def Fs29:Scope:=s0 (l [0,1]++h [26])
def Fs30:Scope:=s0 (l [0,1]++h [26])
def Fs31:Scope:=s0 (l [0])
def Fs32:Scope:=s0 (l [0]++h [26])
def Fs34:Scope:=s0 (l [0,1,33])
def Fs35:Scope:=s0 (l [0])
def Fs37:Scope:=s0 (l [24,22,36]++h [26])
def Fs39:Scope:=s0 (l [38])
def Fs44:Scope:=s0 (l [40]++h [42,41,43])
def Fs46:Scope:=s0 (l [40]++h [42,45,43])
def Fs49:Scope:=s0 (l [47,48])
def Fs51:Scope:=s0 (l [50])
def Fs52:Scope:=s0 (l [50])
def Fs53:Scope:=s0 (l [50])
def Fs56:Scope:=s0 (l [50,54]++h [55])
def Fs59:Scope:=s0 (l [50,57,4,58]++h [42,56])
def Fs60:Scope:=sf (l [50]++h [20,59]) [50,58]
def Fs61:Scope:=s0 (l [50,38]++h [60])
def Fs63:Scope:=s0 (l [16,62])
def Fs64:Scope:=s0 (l [16,62]++h [63])
def Fs66:Scope:=sf (l [50]) [50,65]
def Fs67:Scope:=s0 (l [50]++h [45])
def Fs73:Scope:=s0 (l [69,70,68,4]++h [19,72,42,71,63])
def Fs74:Scope:=s0 (l [16,62]++h [51,64,52,71])
def Fs76:Scope:=s0 (l [16,62,4,54]++h [63,75,64,52,73])
def Fs79:Scope:=s0 (l [16,62,47,48,77,78,4]++h [67,76,74])
def Fs71:Scope:=s0 (l [16,62,69,70,68,4]++h [51,64,52,66,19,72,42,79,63,80])
def Fs83:Scope:=s0 (l [69,70,4,68,81,82]++h [42,71])
def Fs85:Scope:=s0 (l [40,84]++h [42,55,83,85])
def Fs87:Scope:=s0 (l [86])
def Fs91:Scope:=s0 (l [88,90]++h [89,42])
def Fs92:Scope:=s0 (l [86,90]++h [89,87])
def Fs95:Scope:=s0 (l [94,54,4,93]++h [55])
def Fs97:Scope:=sf (l [94,96,93,86,90,9,4]++h [95,91,27,89,42,97,87,85,98,43]) [94,96,93,86,90,9,4,16]
def Fs99:Scope:=s0 (l [88,38]++h [42])
def Fs101:Scope:=s0 (l [88]++h [99,100,89])
def Fs106:Scope:=s0 (l [94,9,102,93,47,48,4,103,104]++h [95,29,101,97,98,105,106,87,85,42,92,43])
def Fs105:Scope:=sf (l [47]++c [48]++h [98,25,89,100,107,108,53,106,105,99,109]) [47,48,93]
def Fs110:Scope:=sf (l [88,54,94]++h [87,26,105,110,107,97,106,43]) [88,54,93,94]
def Fs111:Scope:=s0 (l [88]++h [55])
def Fs113:Scope:=sf (l [88,10]++h [111,112]) [88,93,10,24,22]
def Fs120:Scope:=sf (l [16,62,114]++c [115]++l [117]++h [106,111,42,116,25,113,72,121,118,97]) [16,62,114,115,117,58,119]
def Fs122:Scope:=s0 (l [94,4,93]++h [89,120])
def Fs123:Scope:=s0 (l [47,5,4]++h [89,120])
def Fs129:Scope:=s0 (l [47,48,4]++h [53,105,126,127,128,25,2,124,113,118,123,125])
def Fs130:Scope:=sf (l [88,54]++h [97,122,129,130,107,43]) [88,54,93]
def Fs132:Scope:=s0 (l [88,131,4]++h [110,130])
def Fs135:Scope:=s0 (l [134,133]++h [42,55])
def Fs137:Scope:=s0 (l [136]++h [42])
def Fs138:Scope:=s0 (l [136]++h [42])
def Fs139:Scope:=sf (c [0,1]++l [133]++h [112,42,135,19]) [0,1,133,68]
def Fs140:Scope:=sf (l [136]) [136,9]
def Fs141:Scope:=s0 (l [0,1]++h [139,140])
def Fs143:Scope:=sf (l [136]++c [142]) [136,142,9]
def Fs144:Scope:=s0 (l [136,5]++h [42,55])
def Fs146:Scope:=s0 (l [0,1,4,16,114,62,115]++h [42,145])
def Fs147:Scope:=s0 (l [136]++h [11])
def Fs148:Scope:=sf (l [136]++c [142]) [136,142,9]
def Fs150:Scope:=s0 (l [136,149]++h [42,147,148])
def Fs152:Scope:=sf (l [136]++h [145]) [136,151,9]
def Fs154:Scope:=s0 (l [136,7,4,9]++h [153])
def Fs156:Scope:=s0 (l [136,7,4,155,68]++h [55,19,42])
def Fs157:Scope:=s0 (l [134,133]++h [42,55])
def Fs158:Scope:=s0 (l [136]++h [42])
def Fs160:Scope:=s0 (l [136]++h [42,159])
def Fs161:Scope:=sf (c [0,1]++l [133]++h [112,42,157,19]) [0,1,133,68]
def Fs162:Scope:=sf (l [136]) [136,9]
def Fs163:Scope:=s0 (l [0,1]++h [161,162])
def Fs164:Scope:=sf (l [136]++c [86]) [136,86,9]
def Fs165:Scope:=s0 (l [136,5]++h [42,159,55])
def Fs166:Scope:=s0 (l [0,1,4,16,114,62,115]++h [42,159,145,27,29])
def Fs169:Scope:=s0 (l [136,5,4,168]++h [167,19,166])
def Fs171:Scope:=s0 (l [0,1,90,4,9,151,170]++h [42,25,55,159,112,30,163,165,164,157])
def Fs172:Scope:=s0 (l [136]++h [42,164,32])
def Fs173:Scope:=s0 (l [0,1]++h [42,172,171])
def Fs174:Scope:=s0 (l [0,1,4,9]++h [153,161,166,157])
def Fs177:Scope:=sf (l [175]++c [22]++l [9,176,149]++h [42,159,3,147,150,26]) [175,22,9,176,149]
def Fs181:Scope:=s0 (l [24,22,179,180]++h [25,178,173,158,171,32,160,164])
def Fs182:Scope:=s0 (l [86]++h [159,167])
def Fs184:Scope:=s0 (l [183,23]++h [181,161,166])
def Fs185:Scope:=s0 (l [183,23]++h [181,166])
def Fs186:Scope:=s0 (l [183]++h [181])
def Fs187:Scope:=s0 (l [183,23]++h [181,166])
def Fs189:Scope:=s0 (l [183,7,4,47,114]++h [188,186,2,185])
def Fs190:Scope:=s0 (l [88])
def Fs195:Scope:=sf (l [183,7,191,117,192]++h [112,158,182,194,30,189,8,2,193,118,25]) [183,7,191,86,117,192]
def Fs196:Scope:=sf (l [88]++c [38]++h [190,196,197]) [88,38,93]
def Fs199:Scope:=s0 (l [88,38]++h [196,198])
def Fs198:Scope:=s0 (l [88,38,47,7,4,93,16]++h [182,26,159,167,198,190,195,178,188,184,185])
def Fs200:Scope:=s0 (l [86]++h [37])
def Fs203:Scope:=s0 (l [136,202,201,7,86]++h [145,159,46,200,49,37,110,44])
def Fs205:Scope:=s0 (l [183,202]++h [167,203,110,46,49,204])
def Fs206:Scope:=s0 (l [183,38]++h [205,39])
def Fs207:Scope:=s0 (l [136]++h [42,25])
def Fs208:Scope:=s0 (l [0,1,90,4,9,151]++h [207,55,112,42,141,144,143,135])
def Fs211:Scope:=s0 (l [0,1,5,90,4,114,209,9,151,210]++h [207,112,42,55,138,141,143,144])
def Fs212:Scope:=s0 (l [0,1]++h [211])
def Fs214:Scope:=sf (l [136]++c [9]) [136,9,213]
def Fs217:Scope:=sf (l [0]++c [1]++l [215,90,151]++c [216]++h [211,137]) [0,1,215,90,151,216,213]
def Fs221:Scope:=s0 (l [0,1,220,23,218,219,90,5]++h [137,217,214,138])
def Fs223:Scope:=s0 (l [0,1,220,16,62,222]++h [137,147,221,214])
def Fs226:Scope:=s0 (l [225,6,224])
def Fs227:Scope:=s0 (l [0,1,134,225,224,6,90]++h [42,55,212,148,138,226])
def Fs230:Scope:=s0 (l [0,1,228,9,229]++h [42,143,150,147,3,227])
def Fs231:Scope:=s0 (l [9])
def Fs233:Scope:=s0 (l [136,232,24,22,4,180,213]++h [153,231])
def Fs234:Scope:=s0 (l [183,179]++h [230,152,137,208])
def Fs235:Scope:=s0 (l [232])
def Fs238:Scope:=s0 (l [183,114,4,232,5]++h [42,236,137,233,208,235,237])
def Fs236:Scope:=s0 (l [183,4,241,242,243]++h [137,26,112,2,239,240,244,245,246,29])
def Fs240:Scope:=s0 (l [183,247,4,248,24,22,232]++h [137,21,2,26])
def Fs237:Scope:=s0 (l [250,4,249,68]++h [42,34])
def Fs251:Scope:=sf (c [10]++l [4]++h [42,19]) [10,4,68]
def Fs254:Scope:=s0 (l [252,229,134,4,253,68]++h [55,19,42])
def Fs256:Scope:=s0 (l [252,4,255,68]++h [19,42,139,146,150])
def Fs260:Scope:=sf (l [252]++c [229]++l [5]++h [42,257,258,259,254,25,238,256]) [252,229,5,232]
def Fs262:Scope:=sf (l [183,4,261]++h [137,154]) [183,213,4,261]
def Fs265:Scope:=sf (c [0,1]++l [263,229,10]++h [137,234,262,72,264,25,19,260,251]) [0,1,263,229,218,10]
def Fs266:Scope:=s0 (l [0]++h [42])
def Fs269:Scope:=s0 (l [267,268]++h [25])
def Fs270:Scope:=sf (l [0]) [0,134]
def Fs271:Scope:=s0 (l [0,16,62])
def Fs276:Scope:=sf (l [0]++c [4]++l [272]++c [273]++l [134,274]++c [241]++l [62]++h [270,19,266,42,271,159,275]) [0,4,272,273,134,68,274,241,16,62]
def Fs278:Scope:=s0 (l [0,277,272,4,273,16,68,81]++h [276,19,266,159,167,145,31])
def Fs280:Scope:=sf (l [0]++c [1]++l [279,68,277,272,4,273]++h [269,42,266,276,145,278,159]) [0,1,279,68,134,277,272,4,273]
def Fs281:Scope:=s0 (l [136,218]++h [174,167])
def Fs285:Scope:=s0 (l [24,22,0,1,282,218,23,6]++h [167,265,177,173,281,158,283,25,284,171,19,166])
def Fs286:Scope:=s0 (l [136,151]++h [42,159])
def Fs288:Scope:=s0 (l [0,1,282,243,287,219]++h [112,158,160,30,28,286,35])
def Fs289:Scope:=s0 (l [0,1,232]++h [161,166,281,162])
def Fs293:Scope:=sf (c [0,1,282]++l [263]++c [290]++l [224,291,4]++h [288,283,25,284,19,112,42,280,292]) [0,1,282,263,151,290,273,224,291,4]
def Fs292:Scope:=s0 (l [136,133]++h [42,159])
def Fs296:Scope:=s0 (l [294,0,1,282,295,232]++h [285,281,293,181,166])
def Fs297:Scope:=s0 (l [88,38,5,90,93,47,48]++h [61,101,53,42,106,89])
def Fs298:Scope:=sf (l [88,38]++c [4]++l [93,36]++h [111,132,297,97,98,20]) [88,38,4,93,36,5]
def Fs300:Scope:=s0 (l [183]++h [112,158,299,187,181,281])
def Fs304:Scope:=sf (l [88,38,47,48,4,5,117,24,22,36]++h [53,301,52,188,8,112,158,2,302,118,186,169,303,51,182,194]) [88,38,47,48,4,5,86,117,24,22,36]
def Fs305:Scope:=s0 (l [16,62]++h [188,112,158,299,185])
def Fs301:Scope:=s0 (l [88,38,183,4,93,16]++h [61,188,304,42,306,199,300,301,305])
def Fs309:Scope:=sf (l [88]++c [38]++l [250]++h [298,42,302,25,284,44]) [88,38,250,5,36]
def Fs312:Scope:=s0 (l [88,38,4,294,310,311,70,93,16]++h [309,301,296,188,199,185,46,206])
def Fs315:Scope:=sf (l [88]++c [38]++l [4,314,313]++h [110,312,25,298,42,111,132,44]) [88,38,4,314,93,313]
def Fs316:Scope:=s0 (l [88,7,24,22,5,93,16,62]++h [316])
end
section
open L
open K (p o)
def Fb3:S:=ru 10 [T [v 0,v 1] [w .abs 4 [v 0],w .abs 4 [v 1]],W (mn (v 1) (i 0)) [T [v 0,v 1] [v 1,b (v 0) .Mod 3 (v 1)]],R (v 0)]
def Fb8:S:=ru 15 [A 4 (i 0),F (v 5) (u [i 4096,i 64,i 1]) [A 6 (b (i 2) .Pow 4 (v 5)),W (m .GtE 4 (v 7) (v 6)) [T [v 7,v 4] [b (v 7) .FloorDiv 4 (v 6),ba (v 4) (v 5)]]],R (ba (v 4) (v 7))]
def Fb11:S:=ru 22 [A 4 (i 0),F (v 9) (v 10) [A 4 (k 3 [v 4,v 9])],R (v 4)]
def Fb13:S:=ru 27 [A 4 (v 12),W (m .LtE 4 (bm (v 4) (v 4)) (v 7)) [I (me (b (v 7) .Mod 3 (v 4)) (i 0)) [R (v 4)],Bq 4 .Add 4 (e (me (v 4) (i 2)) (i 1) (i 2))],R (v 7)]
def Fb15:S:=ru 34 [TT [v 4,v 14] [s [],i 2] [true,false] [],W (mg (v 7) (i 1)) [T [v 14,v 5] [k 13 [v 7,v 14],i 0],W (me (b (v 7) .Mod 3 (v 14)) (i 0)) [T [v 7,v 5] [b (v 7) .FloorDiv 4 (v 14),ba (v 5) (i 1)]],M 4 .append 7 [u [v 14,v 5]] [],A 14 (e (me (v 14) (i 2)) (i 3) (ba (v 14) (i 2)))],R2 [v 4] [4]]
def Fb21:S:=ru 43 [A 4 (s [i 1]),F (uu [v 14,v 5]) (k 15 [w .abs 4 [v 7]]) [A 4 (lc (bm (v 16) (b (v 14) .Pow 4 (v 17))) [ge (v 16) (v 4),ge (v 17) (w .range 6 [ba (v 5) (i 1)])] [16,17] (l [18,16,17]++h [19]++f [5,14]))],R (w .sorted 7 [v 4])]
def Fb26:S:=ru 52 [I (me (v 22) (i 0)) [ra "division by zero" 18 "a ratio with the bottom 0" 27],A 23 (e (mg (v 22) (i 0)) (k 3 [v 24,v 22]) (bs (i 0) (k 3 [v 24,v 22]))),R (u [b (v 24) .FloorDiv 4 (v 23),b (v 22) .FloorDiv 4 (v 23)])]
def Fb27:S:=ru 57 [R (k 26 [ba (bm (z (v 0) 0) (z (v 1) 1)) (bm (z (v 1) 0) (z (v 0) 1)),bm (z (v 0) 1) (z (v 1) 1)])]
def Fb28:S:=ru 59 [R (k 26 [bs (bm (z (v 0) 0) (z (v 1) 1)) (bm (z (v 1) 0) (z (v 0) 1)),bm (z (v 0) 1) (z (v 1) 1)])]
def Fb29:S:=ru 61 [R (k 26 [bm (z (v 0) 0) (z (v 1) 0),bm (z (v 0) 1) (z (v 1) 1)])]
def Fb30:S:=ru 63 [R (k 26 [bm (z (v 0) 0) (z (v 1) 1),bm (z (v 0) 1) (z (v 1) 0)])]
def Fb31:S:=ru 65 [R (u [bs (i 0) (z (v 0) 0),z (v 0) 1])]
def Fb32:S:=ru 67 [R (k 26 [z (v 0) 1,z (v 0) 0])]
def Fb34:S:=ru 76 [A 33 (bs (bm (z (v 0) 0) (z (v 1) 1)) (bm (z (v 1) 0) (z (v 0) 1))),R (bs (j (mg (v 33) (i 0))) (j (m .Lt 3 (v 33) (i 0))))]
def Fb35:S:=ru 81 [R (me (z (v 0) 1) (i 1))]
def Fb37:S:=ru 88 [A 36 (k 26 [v 24,v 22]),R (u [t "num" 5,z (v 36) 0,z (v 36) 1])]
def Fb39:S:=ru 91 [R (u [t "sym" 5,v 38])]
def Fb44:S:=ru 93 [I (me (w .len 4 [v 40]) (i 0)) [R (g 41)],R (e (me (w .len 4 [v 40]) (i 1)) (z (v 40) 0) (u [y 121,w .tuple 6 [v 40]]))]
def Fb46:S:=ru 97 [I (me (w .len 4 [v 40]) (i 0)) [R (g 45)],R (e (me (w .len 4 [v 40]) (i 1)) (z (v 40) 0) (u [t "prod" 6,w .tuple 6 [v 40]]))]
def Fb49:S:=ru 101 [R (u [t "pow" 5,v 47,v 48])]
def Fb51:S:=ru 103 [R (me (z (v 50) 0) (t "num" 5))]
def Fb52:S:=ru 105 [R (u [z (v 50) 1,z (v 50) 2])]
def Fb53:S:=ru 107 [R (an [me (z (v 50) 0) (t "num" 5),me (z (v 50) 2) (i 1)])]
def Fb56:S:=ru 109 [A 54 (z (v 50) 0),I (m .In 4 (v 54) (u [y 121,t "prod" 6,y 55])) [R (w .list 5 [z (v 50) 1])],I (m .In 4 (v 54) (u [t "pow" 5,t "eq" 4])) [R (s [z (v 50) 1,z (v 50) 2])],R (e (me (v 54) (t "call" 6)) (w .list 5 [z (v 50) 2]) (s []))]
def Fb59:S:=ru 116 [TT [v 57,v 4] [s [v 50],s []] [true,true] [],W (mg (w .len 4 [v 57]) (i 0)) [ol q0 118 28,M 4 .append 7 [v 58] [],ol q1 120 47],R2 [v 4] [4]]
def Fb60:S:=ru 135 [R (w .sorted 7 [dk (z (v 58) 1) (q (.bool true) 4) [gf (v 58) (k 59 [v 50]) [me (z (v 58) 0) (t "sym" 5)]] [58] (l [18,58])])]
def Fb61:S:=ru 137 [R (m .In 4 (v 38) (k 60 [v 50]))]
def Fb63:S:=ru 141 [I (me (v 16) (v 62)) [R (i 0)],R (e (m .Lt 3 (v 16) (v 62)) (n (i 1)) (i 1))]
def Fb64:S:=ru 145 [R (k 63 [bm (z (v 16) 0) (z (v 62) 1),bm (z (v 62) 0) (z (v 16) 1)])]
def Fb66:S:=ru 147 [I (mn (z (v 50) 0) (t "prod" 6)) [R (s [v 50])],R (lc (v 65) [gf (v 65) (z (v 50) 1) [nt (k 51 [v 65])]] [65] (l [18,65]++h [51]))]
def Fb67:S:=ru 155 [R (e (me (z (v 50) 0) (t "pow" 5)) (u [z (v 50) 1,z (v 50) 2]) (u [v 50,g 45]))]
def Fb73:S:=ru 157 [F (v 68) (w .range 6 [w .min 4 [w .len 4 [v 69],w .len 4 [v 70]]]) [A 4 (k 71 [x (v 69) (v 68),x (v 70) (v 68)]),I (mn (v 4) (i 0)) [R (v 4)]],R (k 63 [w .len 4 [v 70],w .len 4 [v 69]])]
def Fb74:S:=ru 163 [I (an [k 51 [v 16],k 51 [v 62]]) [R (k 64 [k 52 [v 62],k 52 [v 16]])],I (mn (k 51 [v 16]) (k 51 [v 62])) [R (e (k 51 [v 16]) (i 1) (n (i 1)))],R (k 71 [v 16,v 62])]
def Fb76:S:=ru 169 [A 4 (k 63 [x (g 75) (z (v 16) 0),x (g 75) (z (v 62) 0)]),I (mn (v 4) (i 0)) [R (v 4)],A 54 (z (v 16) 0),I (me (v 54) (t "num" 5)) [R (k 64 [k 52 [v 16],k 52 [v 62]])],I (me (v 54) (t "sym" 5)) [R (k 63 [z (v 16) 1,z (v 62) 1])],I (me (v 54) (t "call" 6)) [A 4 (k 63 [z (v 16) 1,z (v 62) 1]),R (e (mn (v 4) (i 0)) (v 4) (k 73 [z (v 16) 2,z (v 62) 2]))],I (m .In 4 (v 54) (u [y 121,t "prod" 6,y 55])) [R (k 73 [z (v 16) 1,z (v 62) 1])],R (k 73 [x (v 16) (sl [i 1] []),x (v 62) (sl [i 1] [])])]
def Fb79:S:=ru 184 [AA (uu [v 47,v 48]) (k 67 [v 16]),AA (uu [v 77,v 78]) (k 67 [v 62]),A 4 (k 76 [v 47,v 77]),R (e (mn (v 4) (i 0)) (v 4) (k 74 [v 48,v 78]))]
def Fb71:S:=ru 189 [I (an [k 51 [v 16],k 51 [v 62]]) [R (k 64 [k 52 [v 16],k 52 [v 62]])],I (mn (k 51 [v 16]) (k 51 [v 62])) [R (e (k 51 [v 16]) (i 1) (n (i 1)))],T [v 69,v 70] [k 66 [v 16],k 66 [v 62]],F (v 68) (w .range 6 [w .min 4 [w .len 4 [v 69],w .len 4 [v 70]]]) [A 4 (k 79 [x (v 69) (v 68),x (v 70) (v 68)]),I (mn (v 4) (i 0)) [R (v 4)]],A 4 (k 63 [w .len 4 [v 70],w .len 4 [v 69]]),R (e (mn (v 4) (i 0)) (v 4) (k 64 [r (.Call (func:=.Name "front_value" (p 51 11 199)) (args:=[.Name "one" (p 63 3 199)]) (keywords:=[]) (pos:=(p 51 16 199))) 67,r (.Call (func:=.Name "front_value" (p 69 11 199)) (args:=[.Name "other" (p 81 5 199)]) (keywords:=[]) (pos:=(p 69 18 199))) 87]))]
def Fb83:S:=ru 201 [TT [v 4,v 68,v 81] [s [],i 0,i 0] [true,false,false] [],W (or [m .Lt 3 (v 68) (w .len 4 [v 69]),m .Lt 3 (v 81) (w .len 4 [v 70])]) [A 82 (or [m .GtE 4 (v 81) (w .len 4 [v 70]),j (an [m .Lt 3 (v 68) (w .len 4 [v 69]),m .LtE 4 (k 71 [x (v 69) (v 68),x (v 70) (v 81)]) (i 0)])]),Io (v 82) [M 4 .append 7 [x (v 69) (v 68)] [],Bq 68 .Add 4 (i 1)] [M 4 .append 7 [x (v 70) (v 81)] [],Bq 81 .Add 4 (i 1)]],R2 [v 4] [4]]
def Fb85:S:=ru 212 [I (m .Lt 3 (w .len 4 [v 40]) (i 2)) [R (w .list 5 [v 40])],A 84 (b (w .len 4 [v 40]) .FloorDiv 4 (i 2)),R (k 83 [k 85 [x (v 40) (sl [] [v 84])],k 85 [x (v 40) (sl [v 84] [])]])]
def Fb87:S:=ru 226 [R (u [t "num" 5,z (v 86) 0,z (v 86) 1])]
def Fb91:S:=ru 228 [I (me (z (v 88) 0) (t "num" 5)) [R (u [u [z (v 88) 1,z (v 88) 2],g 89])],I (or [mn (z (v 88) 0) (t "prod" 6),mn (z (z (z (v 88) 1) 0) 0) (t "num" 5)]) [R (u [u [i 1,i 1],v 88])],A 90 (e (me (w .len 4 [z (v 88) 1]) (i 2)) (z (z (v 88) 1) 1) (u [t "prod" 6,x (z (v 88) 1) (sl [i 1] [])])),R (u [u [z (z (z (v 88) 1) 0) 1,z (z (z (v 88) 1) 0) 2],v 90])]
def Fb92:S:=ru 235 [I (or [me (z (v 86) 0) (i 0),me (v 90) (g 89)]) [R (k 87 [v 86])],I (me (v 86) (u [i 1,i 1])) [R (v 90)],R (u [t "prod" 6,ba (u1 (k 87 [v 86])) (j (e (me (z (v 90) 0) (t "prod" 6)) (z (v 90) 1) (u1 (v 90))))])]
def Fb95:S:=ru 241 [A2 (v 4) (s []) true [],F (v 93) (v 94) [M 4 .extend 7 [e (me (z (v 93) 0) (v 54)) (w .list 5 [z (v 93) 1]) (s [v 93])] []],R2 [v 4] [4]]
def Fb97:S:=ru 246 [A2 (v 96) dc true [],F (v 93) (k 95 [v 94,y 121]) [AA (uu [v 86,v 90]) (k 91 [v 93]),Cq 96 (v 90) (k 27 [mt (v 96) .get 5 [v 90,u [i 0,i 1]],v 86]) []],ol q2 250 36,A2 (v 4) (lc (k 92 [v 86,v 90]) [gf (uu [v 90,v 86]) (mt (v 96) .items 7 []) [mn (z (v 86) 0) (i 0)]] [90,86] (l [18,90,86]++h [92])) false [96],I (mg (w .len 4 [lc (v 16) [gf (v 16) (v 4) [me (z (v 16) 0) (y 121)]] [16] (l [18,16])]) (i 0)) [R (k 97 [ba (v 4) (s [k 87 [v 9]])])],A 4 (ba (k 85 [v 4]) (j (e (mn (z (v 9) 0) (i 0)) (s [k 87 [v 9]]) (s [])))),I (me (w .len 4 [v 4]) (i 0)) [R (g 98)],R (e (me (w .len 4 [v 4]) (i 1)) (z (v 4) 0) (u [y 121,w .tuple 6 [v 4]]))]
def Fb99:S:=ru 259 [R (an [me (z (v 88) 0) (t "call" 6),me (z (v 88) 1) (v 38),j (me (w .len 4 [z (v 88) 2]) (i 1))])]
def Fb101:S:=ru 261 [I (me (z (v 88) 0) (t "pow" 5)) [R (u [z (v 88) 1,z (v 88) 2])],I (k 99 [v 88,t "exp" 5]) [R (u [g 100,z (z (v 88) 2) 0])],R (u [v 88,g 89])]
def Fb106:S:=ru 267 [TT [v 9,v 102] [u [i 1,i 1],dc] [false,true] [],F (v 93) (k 95 [v 94,t "prod" 6]) [Io (me (z (v 93) 0) (t "num" 5)) [A 9 (k 29 [v 9,u [z (v 93) 1,z (v 93) 2]])] [AA (uu [v 47,v 48]) (k 101 [v 93]),Cq 102 (v 47) (e (m .In 4 (v 47) (v 102)) (k 97 [s [x (v 102) (v 47),v 48]]) (v 48)) []]],I (me (z (v 9) 0) (i 0)) [R (g 98)],TT [v 4,v 103] [s [],q (.bool true) 4] [true,false] [],FF (uu [v 47,v 48]) (mt (v 102) .items 7 []) [A 104 (k 105 [v 47,v 48]),Io (me (z (v 104) 0) (t "num" 5)) [A 9 (k 29 [v 9,u [z (v 104) 1,z (v 104) 2]])] [A 103 (an [v 103,mn (z (v 104) 0) (t "prod" 6),j (me (z (k 101 [v 104]) 0) (v 47))]),M 4 .append 7 [v 104] []]] [102],I (nt (v 103)) [R2 [k 106 [ba (s [k 87 [v 9]]) (v 4)]] [4]],A2 (v 4) (k 85 [v 4]) false [4],I (or [me (w .len 4 [v 4]) (i 0),me (z (v 9) 0) (i 0)]) [R (k 87 [v 9])],R (k 92 [v 9,e (me (w .len 4 [v 4]) (i 1)) (z (v 4) 0) (u [t "prod" 6,w .tuple 6 [v 4]])])]
def Fb105:S:=ru 291 [I (me (v 48) (g 98)) [I (me (v 47) (g 98)) [ra "domain" 8 "0 ^ 0" 7],R (g 89)],I (me (v 48) (g 89)) [R (v 47)],I (me (v 47) (g 100)) [R (r (.Call (func:=.Name "call_of" (p 15 7 298)) (args:=[.Constant (.str "exp") 0 (p 23 5 298),.List [.Name "exponent" (p 31 8 298)] (p 30 10 298)]) (keywords:=[]) (pos:=(p 15 26 298))) 41)],I (me (z (v 47) 0) (t "num" 5)) [R (r (.Call (func:=.Name "number_power" (p 15 12 300)) (args:=[.Name "base" (p 28 4 300),.Name "exponent" (p 34 8 300)]) (keywords:=[]) (pos:=(p 15 28 300))) 43)],I (an [k 53 [v 48],me (z (v 47) 0) (t "prod" 6)]) [R (k 106 [lc (k 105 [v 93,v 48]) [ge (v 93) (z (v 47) 1)] [93] (l [18,93]++h [105]++f [48])])],I (an [k 53 [v 48],me (z (v 47) 0) (t "pow" 5)]) [R (k 105 [z (v 47) 1,k 106 [s [z (v 47) 2,v 48]]])],I (an [k 53 [v 48],k 99 [v 47,t "exp" 5]]) [R (r (.Call (func:=.Name "call_of" (p 15 7 306)) (args:=[.Constant (.str "exp") 0 (p 23 5 306),.List (elts:=[.Call (func:=.Name "gathered_product" (p 31 16 306)) (args:=[.List (elts:=[.Subscript (value:=.Subscript (value:=.Name "base" (p 49 4 306)) (slice:=.Constant (.int 2) 0 (p 54 1 306)) (pos:=(p 49 7 306))) (slice:=.Constant (.int 0) 0 (p 57 1 306)) (pos:=(p 49 10 306)),.Name "exponent" (p 61 8 306)]) (pos:=(p 48 22 306))]) (keywords:=[]) (pos:=(p 31 40 306))]) (pos:=(p 30 42 306))]) (keywords:=[]) (pos:=(p 15 58 306))) 73)],I (an [me (z (v 48) 0) (t "num" 5),j (or [m .In 4 (z (v 47) 0) (u [t "prod" 6,t "pow" 5]),k 99 [v 47,t "exp" 5]])]) [R (r (.Call (func:=.Name "split_power" (p 15 11 308)) (args:=[.Name "base" (p 27 4 308),.Name "exponent" (p 33 8 308)]) (keywords:=[]) (pos:=(p 15 27 308))) 42)],R (u [t "pow" 5,v 47,v 48])]
def Fb110:S:=ru 404 [A 54 (z (v 88) 0),I (me (v 54) (t "num" 5)) [R (k 87 [k 26 [z (v 88) 1,z (v 88) 2]])],I (me (v 54) (t "sym" 5)) [R (v 88)],I (me (v 54) (t "pow" 5)) [R (k 105 [k 110 [z (v 88) 1],k 110 [z (v 88) 2]])],I (me (v 54) (t "call" 6)) [R (r (.Call (func:=.Name "call_of" (p 15 7 412)) (args:=[.Subscript (value:=.Name "t" (p 23 1 412)) (slice:=.Constant (.int 1) 0 (p 25 1 412)) (pos:=(p 23 4 412)),.ListComp (elt:=.Call (func:=.Name "simplify" (p 30 8 412)) (args:=[.Name "part" (p 39 4 412)]) (keywords:=[]) (pos:=(p 30 14 412))) (generators:=[{target:=.Name "part" (p 49 4 412),iter:=.Subscript (value:=.Name "t" (p 57 1 412)) (slice:=.Constant (.int 2) 0 (p 59 1 412)) (pos:=(p 57 4 412)),ifs:=[],is_async:=0}]) (scope:={kind:=.function,names:=[(o ".0",.local),(o "part",.local),(o "simplify",.globalImplicit)],isGenerator:=false,isCoroutine:=false,more:=[]}) (pos:=(p 29 33 412))]) (keywords:=[]) (pos:=(p 15 48 412))) 63)],I (me (v 54) (t "eq" 4)) [R (u [t "eq" 4,k 110 [z (v 88) 1],k 110 [z (v 88) 2]])],A 94 (lc (k 110 [v 93]) [ge (v 93) (z (v 88) 1)] [93] (l [18,93]++h [110])),I (me (v 54) (y 121)) [R (k 97 [v 94])],R (e (me (v 54) (t "prod" 6)) (k 106 [v 94]) (u [y 55,w .tuple 6 [v 94]]))]
def Fb111:S:=ru 425 [R (e (me (z (v 88) 0) (y 121)) (w .list 5 [z (v 88) 1]) (s [v 88]))]
def Fb113:S:=ru 427 [A 10 (lc (z (k 91 [v 93]) 0) [ge (v 93) (k 111 [v 88])] [93] (l [18,93]++h [91])),R (w .max 4 [lc (k 8 [w .max 4 [w .abs 4 [v 24],v 22]]) [ge (uu [v 24,v 22]) (v 10)] [24,22] (l [18,24,22]++h [8,112,2])])]
def Fb120:S:=ru 430 [I (an [mn (z (v 16) 0) (y 121),mn (z (v 62) 0) (y 121)]) [R (k 106 [s [v 16,v 62]])],T [v 114,v 115] [k 111 [v 16],k 111 [v 62]],I (mg (bm (w .len 4 [v 114]) (w .len 4 [v 115])) (g 116)) [ra "limit" 7 "a product of sums with too many parts" 39],A 117 (s [k 113 [v 16],k 113 [v 62]]),I (an [mg (w .min 4 [v 117]) (i 1),mg (r (.Call (func:=.Name "sum" (p 25 3 436)) (args:=[.Name "bits" (p 29 4 436)]) (keywords:=[]) (pos:=(p 25 9 436))) 34) (g 118)]) [ra "limit" 7 "a product of sums with too long numbers" 41],R (k 97 [lc (k 120 [v 58,v 119]) [ge (v 58) (v 114),ge (v 119) (v 115)] [58,119] (l [18,58,119]++h [120]++f [115])])]
def Fb122:S:=ru 440 [A 4 (g 89),F (v 93) (v 94) [A 4 (k 120 [v 4,v 93])],R (v 4)]
def Fb123:S:=ru 445 [A 4 (g 89),W (mg (v 5) (i 0)) [I (me (b (v 5) .Mod 3 (i 2)) (i 1)) [A 4 (k 120 [v 4,v 47])],A 5 (b (v 5) .FloorDiv 4 (i 2)),I (mg (v 5) (i 0)) [A 47 (k 120 [v 47,v 47])]],R (v 4)]
def Fb129:S:=ru 454 [I (nt (k 53 [v 48])) [A 4 (k 105 [v 47,v 48]),I (r (.Call (func:=.Name "is_too_great" (p 11 12 456)) (args:=[.Name "found" (p 24 5 456),.Name "MOST_LEVELS" (p 31 11 456),.Name "MOST_TERMS" (p 44 10 456)]) (keywords:=[]) (pos:=(p 11 44 456))) 55) [ra "limit" 7 "a broken power of too many levels or terms" 44],R (v 4)],I (mn (z (v 47) 0) (y 121)) [R (k 105 [v 47,v 48])],I (mg (w .abs 4 [z (v 48) 1]) (g 124)) [ra "limit" 7 "a power of a sum too far to be multiplied out" 47],I (an [mg (w .abs 4 [z (v 48) 1]) (i 1),mg (bm (w .abs 4 [z (v 48) 1]) (k 113 [v 47])) (g 118)]) [ra "limit" 7 "a power of a sum with too long numbers" 40],I (mg (z (v 48) 1) (i 0)) [R (k 123 [v 47,z (v 48) 1])],R (k 105 [k 123 [v 47,n (z (v 48) 1)],g 125])]
def Fb130:S:=ru 469 [A 54 (z (v 88) 0),I (m .In 4 (v 54) (u [t "num" 5,t "sym" 5])) [R (v 88)],I (me (v 54) (y 121)) [R (k 97 [lc (k 130 [v 93]) [ge (v 93) (z (v 88) 1)] [93] (l [18,93]++h [130])])],I (me (v 54) (t "prod" 6)) [R (k 122 [lc (k 130 [v 93]) [ge (v 93) (z (v 88) 1)] [93] (l [18,93]++h [130])])],I (me (v 54) (t "pow" 5)) [R (k 129 [k 130 [z (v 88) 1],k 130 [z (v 88) 2]])],I (me (v 54) (t "call" 6)) [R (r (.Call (func:=.Name "call_of" (p 15 7 479)) (args:=[.Subscript (value:=.Name "t" (p 23 1 479)) (slice:=.Constant (.int 1) 0 (p 25 1 479)) (pos:=(p 23 4 479)),.ListComp (elt:=.Call (func:=.Name "expand_once" (p 30 11 479)) (args:=[.Name "part" (p 42 4 479)]) (keywords:=[]) (pos:=(p 30 17 479))) (generators:=[{target:=.Name "part" (p 52 4 479),iter:=.Subscript (value:=.Name "t" (p 60 1 479)) (slice:=.Constant (.int 2) 0 (p 62 1 479)) (pos:=(p 60 4 479)),ifs:=[],is_async:=0}]) (scope:={kind:=.function,names:=[(o ".0",.local),(o "part",.local),(o "expand_once",.globalImplicit)],isGenerator:=false,isCoroutine:=false,more:=[]}) (pos:=(p 29 36 479))]) (keywords:=[]) (pos:=(p 15 51 479))) 66)],I (me (v 54) (t "eq" 4)) [R (u [t "eq" 4,k 130 [z (v 88) 1],k 130 [z (v 88) 2]])],R (u [y 55,w .tuple 6 [lc (k 130 [v 93]) [ge (v 93) (z (v 88) 1)] [93] (l [18,93]++h [130])]])]
def Fb132:S:=ru 484 [T [v 131,v 4] [q .none 4,k 110 [v 88]],W (mn (v 4) (v 131)) [T [v 131,v 4] [v 4,k 130 [v 4]]],R (v 4)]
def Fb135:S:=ru 510 [A 133 (w .len 4 [v 134]),W (an [mg (v 133) (i 0),me (x (v 134) (bs (v 133) (i 1))) (i 0)]) [Bq 133 .Sub 4 (i 1)],R (w .list 5 [x (v 134) (sl [] [v 133])])]
def Fb137:S:=ru 515 [R (bs (w .len 4 [v 136]) (i 1))]
def Fb138:S:=ru 517 [R (e (mg (w .len 4 [v 136]) (i 0)) (x (v 136) (n (i 1))) (i 0))]
def Fb139:S:=ru 519 [A 133 (w .max 4 [w .len 4 [v 0],w .len 4 [v 1]]),R (k 135 [lc (ba (j (e (m .Lt 3 (v 68) (w .len 4 [v 0])) (x (v 0) (v 68)) (i 0))) (j (e (m .Lt 3 (v 68) (w .len 4 [v 1])) (x (v 1) (v 68)) (i 0)))) [ge (v 68) (w .range 6 [v 133])] [68] (l [18,68]++h [42]++f [0,1])])]
def Fb140:S:=ru 522 [R (lc (n (v 9)) [ge (v 9) (v 136)] [9] (l [18,9]))]
def Fb141:S:=ru 524 [R (k 139 [v 0,k 140 [v 1]])]
def Fb143:S:=ru 526 [R (e (mn (v 142) (i 0)) (lc (bm (v 9) (v 142)) [ge (v 9) (v 136)] [9] (l [18,9]++f [142])) (s []))]
def Fb144:S:=ru 528 [R (e (mg (w .len 4 [v 136]) (i 0)) (ba (bm (s [i 0]) (v 5)) (w .list 5 [v 136])) (s []))]
def Fb146:S:=ru 530 [I (or [me (w .len 4 [v 0]) (i 0),me (w .len 4 [v 1]) (i 0)]) [R (s [])],A2 (v 4) (bm (s [i 0]) (j (bs (ba (w .len 4 [v 0]) (w .len 4 [v 1])) (i 1)))) true [],F (uu [v 16,v 114]) (w .enumerate 10 [v 0]) [I (mn (v 114) (i 0)) [F (uu [v 62,v 115]) (w .enumerate 10 [v 1]) [ol q3 536 50]]],R2 [v 4] [4]]
def Fb147:S:=ru 539 [R (k 11 [v 136])]
def Fb148:S:=ru 541 [R (lc (b (v 9) .FloorDiv 4 (v 142)) [ge (v 9) (v 136)] [9] (l [18,9]++f [142]))]
def Fb150:S:=ru 543 [I (me (w .len 4 [v 136]) (i 0)) [R (s [])],A 149 (k 147 [v 136]),R (k 148 [v 136,e (mg (x (v 136) (n (i 1))) (i 0)) (v 149) (n (v 149))])]
def Fb152:S:=ru 548 [R (x (lc (bm (v 9) (v 151)) [ge (uu [v 151,v 9]) (w .enumerate 10 [v 136])] [151,9] (l [18,151,9])) (sl [i 1] []))]
def Fb154:S:=ru 550 [A 4 (i 0),F (v 9) (w .reversed 9 [v 136]) [A 4 (ba (bm (v 4) (v 7)) (v 9))],R (v 4)]
def Fb156:S:=ru 555 [A2 (v 4) (w .list 5 [v 136]) true [],F (v 155) (w .range 6 [bs (w .len 4 [v 136]) (i 1)]) [F (v 68) (w .range 6 [bs (w .len 4 [v 136]) (i 2),bs (v 155) (i 1),n (i 1)]) [ol q4 558 42]],R2 [v 4] [4]]
def Fb157:S:=ru 562 [A 133 (w .len 4 [v 134]),W (an [mg (v 133) (i 0),me (z (x (v 134) (bs (v 133) (i 1))) 0) (i 0)]) [Bq 133 .Sub 4 (i 1)],R (w .list 5 [x (v 134) (sl [] [v 133])])]
def Fb158:S:=ru 567 [R (bs (w .len 4 [v 136]) (i 1))]
def Fb160:S:=ru 569 [R (e (mg (w .len 4 [v 136]) (i 0)) (x (v 136) (n (i 1))) (g 159))]
def Fb161:S:=ru 571 [A 133 (w .max 4 [w .len 4 [v 0],w .len 4 [v 1]]),R (k 157 [lc (k 27 [e (m .Lt 3 (v 68) (w .len 4 [v 0])) (x (v 0) (v 68)) (g 159),e (m .Lt 3 (v 68) (w .len 4 [v 1])) (x (v 1) (v 68)) (g 159)]) [ge (v 68) (w .range 6 [v 133])] [68] (l [18,68]++h [27,42,159]++f [0,1])])]
def Fb162:S:=ru 574 [R (lc (k 31 [v 9]) [ge (v 9) (v 136)] [9] (l [18,9]++h [31]))]
def Fb163:S:=ru 576 [R (k 161 [v 0,k 162 [v 1]])]
def Fb164:S:=ru 578 [R (e (mn (z (v 86) 0) (i 0)) (lc (k 29 [v 9,v 86]) [ge (v 9) (v 136)] [9] (l [18,9]++h [29]++f [86])) (s []))]
def Fb165:S:=ru 580 [R (e (mg (w .len 4 [v 136]) (i 0)) (ba (bm (s [g 159]) (v 5)) (w .list 5 [v 136])) (s []))]
def Fb166:S:=ru 582 [I (or [me (w .len 4 [v 0]) (i 0),me (w .len 4 [v 1]) (i 0)]) [R (s [])],A2 (v 4) (bm (s [g 159]) (j (bs (ba (w .len 4 [v 0]) (w .len 4 [v 1])) (i 1)))) true [],F (uu [v 16,v 114]) (w .enumerate 10 [v 0]) [F (uu [v 62,v 115]) (w .enumerate 10 [v 1]) [Cq 4 (ba (v 16) (v 62)) (k 27 [x (v 4) (ba (v 16) (v 62)),k 29 [v 114,v 115]]) []]],R2 [v 4] [4]]
def Fb169:S:=ru 590 [A 4 (s [g 167]),F (v 168) (w .range 6 [v 5]) [A 4 (k 166 [v 4,v 136])],R (v 4)]
def Fb171:S:=ru 595 [I (me (w .len 4 [v 1]) (i 0)) [ra "division by zero" 18 "a polynomial is divided by 0" 30],TT [v 90,v 4] [w .list 5 [v 0],bm (s [g 159]) (w .max 4 [i 0,ba (bs (w .len 4 [v 0]) (w .len 4 [v 1])) (i 1)])] [false,true] [],W (m .GtE 4 (w .len 4 [v 90]) (w .len 4 [v 1])) [T [v 9,v 151] [k 30 [x (v 90) (n (i 1)),x (v 1) (n (i 1))],bs (w .len 4 [v 90]) (w .len 4 [v 1])],Cq 4 (v 151) (v 9) [],A 170 (k 163 [x (v 90) (sl [] [n (i 1)]),k 165 [k 164 [x (v 1) (sl [] [n (i 1)]),v 9],v 151]]),A 90 (v 170)],R2 [u [k 157 [v 4],v 90]] [4]]
def Fb172:S:=ru 605 [R (e (mg (w .len 4 [v 136]) (i 0)) (k 164 [v 136,k 32 [x (v 136) (n (i 1))]]) (s []))]
def Fb173:S:=ru 607 [W (mg (w .len 4 [v 1]) (i 0)) [T [v 0,v 1] [v 1,k 172 [z (k 171 [v 0,v 1]) 1]]],R (k 172 [v 0])]
def Fb174:S:=ru 611 [A 4 (s []),F (v 9) (w .reversed 9 [v 0]) [A 4 (k 161 [k 166 [v 4,v 1],k 157 [s [v 9]]])],R (v 4)]
def Fb177:S:=ru 616 [I (me (w .len 4 [v 175]) (i 0)) [R (u [s [],g 159])],A 22 (i 1),F (v 9) (v 175) [A 22 (bm (b (v 22) .FloorDiv 4 (k 3 [v 22,z (v 9) 1])) (z (v 9) 1))],A 176 (lc (bm (z (v 9) 0) (j (b (v 22) .FloorDiv 4 (z (v 9) 1)))) [ge (v 9) (v 175)] [9] (l [18,9]++f [22])),A 149 (k 147 [v 176]),R (u [k 150 [v 176],k 26 [e (mg (x (v 176) (n (i 1))) (i 0)) (v 149) (n (v 149)),v 22]])]
def Fb181:S:=ru 628 [I (me (v 22) (s [])) [ra "division by zero" 18 "a rational term without a bottom" 34],I (me (v 24) (s [])) [R (g 178)],A 179 (k 173 [v 24,v 22]),I (mg (k 158 [v 179]) (i 0)) [T [v 24,v 22] [z (k 171 [v 24,v 179]) 0,z (k 171 [v 22,v 179]) 0]],A 180 (k 32 [k 160 [v 22]]),R (u [k 164 [v 24,v 180],k 164 [v 22,v 180]])]
def Fb182:S:=ru 640 [R (u [e (me (v 86) (g 159)) (s []) (s [v 86]),s [g 167]])]
def Fb184:S:=ru 642 [R (k 181 [k 161 [k 166 [z (v 183) 0,z (v 23) 1],k 166 [z (v 23) 0,z (v 183) 1]],k 166 [z (v 183) 1,z (v 23) 1]])]
def Fb185:S:=ru 644 [R (k 181 [k 166 [z (v 183) 0,z (v 23) 0],k 166 [z (v 183) 1,z (v 23) 1]])]
def Fb186:S:=ru 646 [R (k 181 [z (v 183) 1,z (v 183) 0])]
def Fb187:S:=ru 648 [R (k 181 [k 166 [z (v 183) 0,z (v 23) 1],k 166 [z (v 183) 1,z (v 23) 0]])]
def Fb189:S:=ru 650 [TT [v 4,v 47,v 114] [g 188,e (m .Lt 3 (v 7) (i 0)) (k 186 [v 183]) (v 183),w .abs 4 [v 7]] [false,false,false] [],W (mg (v 114) (i 0)) [I (me (b (v 114) .Mod 3 (i 2)) (i 1)) [A 4 (k 185 [v 4,v 47])],T [v 47,v 114] [e (mg (v 114) (i 1)) (k 185 [v 47,v 47]) (v 47),b (v 114) .FloorDiv 4 (i 2)]],R (v 4)]
def Fb190:S:=ru 659 [R (e (an [me (z (v 88) 0) (t "num" 5),me (z (v 88) 2) (i 1)]) (z (v 88) 1) (q .none 4))]
def Fb195:S:=ru 661 [A 191 (an [me (w .max 4 [k 158 [z (v 183) 0],k 158 [z (v 183) 1]]) (i 0),mn (z (v 183) 0) (s [])]),I (v 191) [R (k 182 [r (.Call (func:=.Name "rpower" (p 23 6 663)) (args:=[.Call (func:=.Name "rdiv" (p 30 4 663)) (args:=[.Subscript (value:=.Subscript (value:=.Name "f" (p 35 1 663)) (slice:=.Constant (.int 0) 0 (p 37 1 663)) (pos:=(p 35 4 663))) (slice:=.Constant (.int 0) 0 (p 40 1 663)) (pos:=(p 35 7 663)),.Subscript (value:=.Subscript (value:=.Name "f" (p 44 1 663)) (slice:=.Constant (.int 1) 0 (p 46 1 663)) (pos:=(p 44 4 663))) (slice:=.Constant (.int 0) 0 (p 49 1 663)) (pos:=(p 44 7 663))]) (keywords:=[]) (pos:=(p 30 22 663)),.Name "n" (p 54 1 663)]) (keywords:=[]) (pos:=(p 23 33 663))) 56])],I (me (z (v 183) 0) (s [])) [R (k 189 [v 183,v 7])],A 117 (k 8 [w .max 4 [lc (w .max 4 [w .abs 4 [z (v 86) 0],z (v 86) 1]) [ge (v 86) (ba (z (v 183) 0) (z (v 183) 1))] [86] (l [18,86]++h [112,2])]]),A 192 (bm (w .abs 4 [v 7]) (w .max 4 [k 158 [z (v 183) 0],k 158 [z (v 183) 1]])),I (an [mg (w .abs 4 [v 7]) (i 1),j (or [mg (v 192) (g 193),mg (bm (w .abs 4 [v 7]) (v 117)) (g 118)])]) [ra "limit" 7 "a power too far to be written out" 35],R (k 189 [v 183,v 7])]
def Fb196:S:=ru 672 [I (me (z (v 88) 0) (t "num" 5)) [R (q (.bool true) 4)],I (me (z (v 88) 0) (t "sym" 5)) [R (me (z (v 88) 1) (v 38))],I (me (z (v 88) 0) (t "pow" 5)) [R (an [m .IsNot 8 (k 190 [z (v 88) 2]) (q .none 4),k 196 [z (v 88) 1,v 38]])],R (an [m .In 4 (z (v 88) 0) (u [y 121,t "prod" 6]),w .all 4 [lc (k 196 [v 93,v 38]) [ge (v 93) (z (v 88) 1)] [93] (l [18,93]++h [196]++f [38])]])]
def Fb199:S:=ru 680 [R (e (k 196 [v 88,v 38]) (k 198 [v 88,v 38]) (q .none 4))]
def Fb198:S:=ru 682 [I (me (z (v 88) 0) (t "num" 5)) [R (k 182 [k 26 [z (v 88) 1,z (v 88) 2]])],I (me (z (v 88) 0) (t "sym" 5)) [R (u [s [g 159,g 167],s [g 167]])],I (me (z (v 88) 0) (t "pow" 5)) [T [v 47,v 7] [k 198 [z (v 88) 1,v 38],k 190 [z (v 88) 2]],R (e (or [m .Is 4 (v 47) (q .none 4),j (an [m .Lt 3 (v 7) (i 0),me (z (v 47) 0) (s [])])]) (q .none 4) (k 195 [v 47,v 7]))],A 4 (e (me (z (v 88) 0) (y 121)) (g 178) (g 188)),F (v 93) (z (v 88) 1) [A 16 (k 198 [v 93,v 38]),I (m .Is 4 (v 16) (q .none 4)) [R (q .none 4)],A 4 (e (me (z (v 88) 0) (y 121)) (k 184 [v 4,v 16]) (k 185 [v 4,v 16]))],R (v 4)]
def Fb200:S:=ru 697 [R (k 37 [z (v 86) 0,z (v 86) 1])]
def Fb203:S:=ru 699 [A2 (v 201) (s []) true [],F (uu [v 7,v 86]) (w .enumerate 10 [v 136]) [I (mn (v 86) (g 159)) [M 201 .append 7 [k 46 [ba (s [k 200 [v 86]]) (j (e (mg (v 7) (i 0)) (s [k 49 [v 202,k 37 [v 7,i 1]]]) (s [])))]] []]],R2 [k 110 [k 44 [v 201]]] [201]]
def Fb205:S:=ru 705 [I (me (z (v 183) 1) (s [g 167])) [R (k 203 [z (v 183) 0,v 202])],R (k 110 [k 46 [s [k 203 [z (v 183) 0,v 202],k 49 [k 203 [z (v 183) 1,v 202],g 204]]]])]
def Fb206:S:=ru 709 [R (k 205 [v 183,k 39 [v 38]])]
def Fb207:S:=ru 712 [I (me (w .len 4 [v 136]) (i 0)) [ra "division by zero" 18 "a polynomial is divided by 0" 30]]
def Fb208:S:=ru 715 [ol q5 715 19,TT [v 90,v 4] [w .list 5 [v 0],bm (s [i 0]) (w .max 4 [i 0,ba (bs (w .len 4 [v 0]) (w .len 4 [v 1])) (i 1)])] [false,true] [],W (m .GtE 4 (w .len 4 [v 90]) (w .len 4 [v 1])) [I (mn (b (x (v 90) (n (i 1))) .Mod 3 (x (v 1) (n (i 1)))) (i 0)) [R (q .none 4)],T [v 9,v 151] [b (x (v 90) (n (i 1))) .FloorDiv 4 (x (v 1) (n (i 1))),bs (w .len 4 [v 90]) (w .len 4 [v 1])],Cq 4 (v 151) (v 9) [],A 90 (k 141 [v 90,k 144 [k 143 [v 1,v 9],v 151]])],R2 [e (me (w .len 4 [v 90]) (i 0)) (k 135 [v 4]) (q .none 4)] [4]]
def Fb211:S:=ru 725 [ol q6 725 19,A 5 (w .max 4 [i 0,ba (bs (w .len 4 [v 0]) (w .len 4 [v 1])) (i 1)]),TT [v 90,v 4,v 114,v 209] [w .list 5 [v 0],s [],v 5,k 138 [v 1]] [false,false,false,false] [],W (m .GtE 4 (w .len 4 [v 90]) (w .len 4 [v 1])) [T [v 9,v 151] [x (v 90) (n (i 1)),bs (w .len 4 [v 90]) (w .len 4 [v 1])],A 4 (k 141 [k 143 [v 4,v 209],k 144 [s [n (v 9)],v 151]]),A 90 (k 141 [k 143 [v 90,v 209],k 144 [k 143 [v 1,v 9],v 151]]),Bq 114 .Sub 4 (i 1)],A 210 (b (v 209) .Pow 4 (v 114)),R (u [k 143 [v 4,v 210],k 143 [v 90,v 210],v 5])]
def Fb212:S:=ru 736 [R (z (k 211 [v 0,v 1]) 1)]
def Fb214:S:=ru 739 [R (lc (b (v 213) .FloorDiv 4 (v 9)) [ge (v 213) (v 136)] [213] (l [18,213]++f [9]))]
def Fb217:S:=ru 741 [AA (uu [v 215,v 90,v 151]) (k 211 [v 0,v 1]),A 216 (bs (ba (bs (k 137 [v 0]) (k 137 [v 1])) (i 1)) (v 151)),R (lc (bm (v 213) (b (k 138 [v 1]) .Pow 4 (v 216))) [ge (v 213) (v 90)] [213] (l [18,213]++h [138]++f [1,216]))]
def Fb221:S:=ru 745 [T [v 23,v 218] [i 1,i 1],W (mg (k 137 [v 1]) (i 0)) [A 219 (bs (k 137 [v 0]) (k 137 [v 1])),I (an [me (b (k 137 [v 0]) .Mod 3 (i 2)) (i 1),me (b (k 137 [v 1]) .Mod 3 (i 2)) (i 1)]) [A 220 (n (v 220))],A 90 (k 217 [v 0,v 1]),T [v 0,v 1] [v 1,k 214 [v 90,bm (v 23) (b (v 218) .Pow 4 (v 219))]],A 23 (k 138 [v 0]),I (mg (v 219) (i 0)) [A 218 (b (b (v 23) .Pow 4 (v 219)) .FloorDiv 4 (b (v 218) .Pow 4 (j (bs (v 219) (i 1)))))]],I (me (v 1) (s [])) [R (i 0)],A 5 (k 137 [v 0]),R (bm (v 220) (j (e (mg (v 5) (i 0)) (b (b (z (v 1) 0) .Pow 4 (v 5)) .FloorDiv 4 (b (v 218) .Pow 4 (j (bs (v 5) (i 1))))) (i 1))))]
def Fb223:S:=ru 760 [I (or [me (v 0) (s []),me (v 1) (s [])]) [R (i 0)],A 220 (i 1),I (m .Lt 3 (k 137 [v 0]) (k 137 [v 1])) [T [v 0,v 1] [v 1,v 0],A 220 (e (an [me (b (k 137 [v 0]) .Mod 3 (i 2)) (i 1),me (b (k 137 [v 1]) .Mod 3 (i 2)) (i 1)]) (n (i 1)) (i 1))],T [v 16,v 62] [k 147 [v 0],k 147 [v 1]],A 222 (bm (b (v 16) .Pow 4 (k 137 [v 1])) (b (v 62) .Pow 4 (k 137 [v 0]))),R (bm (v 222) (k 221 [k 214 [v 0,v 16],k 214 [v 1,v 62],v 220]))]
def Fb226:S:=ru 771 [I (me (v 6) (i 0)) [R (v 224)],R (b (b (v 225) .Pow 4 (v 6)) .FloorDiv 4 (b (v 224) .Pow 4 (j (bs (v 6) (i 1)))))]
def Fb227:S:=ru 775 [I (m .Lt 3 (w .len 4 [v 0]) (w .len 4 [v 1])) [T [v 0,v 1] [v 1,v 0]],TT [v 134,v 225,v 224] [s [w .list 5 [v 0],w .list 5 [v 1]],i 1,i 1] [true,false,false] [],W (mg (w .len 4 [v 1]) (i 1)) [A 6 (bs (w .len 4 [v 0]) (w .len 4 [v 1])),A 90 (k 212 [v 0,v 1]),I (me (w .len 4 [v 90]) (i 0)) [R2 [v 134] [134]],T [v 0,v 1] [v 1,k 148 [v 90,bm (v 225) (b (v 224) .Pow 4 (v 6))]],M 134 .append 7 [v 1] [],A 225 (k 138 [v 0]),A 224 (k 226 [v 225,v 6,v 224])],R2 [v 134] [134]]
def Fb230:S:=ru 789 [I (or [me (w .len 4 [v 0]) (i 0),me (w .len 4 [v 1]) (i 0)]) [A 228 (e (me (w .len 4 [v 0]) (i 0)) (v 1) (v 0)),R (k 143 [k 150 [v 228],k 147 [v 228]])],A 9 (k 3 [k 147 [v 0],k 147 [v 1]]),A 229 (x (k 227 [k 150 [v 0],k 150 [v 1]]) (n (i 1))),R (e (mg (w .len 4 [v 229]) (i 1)) (k 143 [k 150 [v 229],v 9]) (s [v 9]))]
def Fb231:S:=ru 797 [R (bs (j (mg (v 9) (i 0))) (j (m .Lt 3 (v 9) (i 0))))]
def Fb233:S:=ru 799 [AA (uu [v 24,v 22]) (v 232),T [v 4,v 180] [i 0,i 1],F (v 213) (w .reversed 9 [v 136]) [A 4 (ba (bm (v 4) (v 24)) (bm (v 213) (v 180))),A 180 (bm (v 180) (v 22))],R (k 231 [v 4])]
def Fb234:S:=ru 813 [A 179 (k 230 [v 183,k 152 [v 183]]),R (e (mg (k 137 [v 179]) (i 0)) (k 208 [v 183,v 179]) (v 183))]
def Fb235:S:=ru 844 [R (s [n (z (v 232) 0),z (v 232) 1])]
def Fb238:S:=ru 900 [TT [v 114,v 4] [v 183,s []] [false,true] [],W (an [mg (w .len 4 [v 114]) (i 0),me (z (v 114) 0) (i 0)]) [A 114 (x (v 114) (sl [i 1] []))],I (m .Lt 3 (w .len 4 [v 114]) (w .len 4 [v 183])) [M 4 .append 7 [u [u [i 0,i 1],bs (w .len 4 [v 183]) (w .len 4 [v 114])]] []],F (v 232) (k 236 [v 114]) [A 5 (i 0),W (an [mg (k 137 [v 114]) (i 0),me (k 233 [v 114,v 232]) (i 0)]) [A 114 (k 208 [v 114,k 235 [v 232]]),Bq 5 .Add 4 (i 1)],I (mg (v 5) (i 0)) [M 4 .append 7 [u [v 232,v 5]] []]],R2 [k 237 [v 4]] [4]]
def Fb236:S:=ru 914 [I (me (k 137 [v 183]) (i 1)) [R (s [k 26 [n (z (v 183) 0),z (v 183) 1]])],I (or [m .Lt 3 (k 137 [v 183]) (i 1),m .LtE 4 (w .max 4 [w .abs 4 [z (v 183) 0],w .abs 4 [x (v 183) (n (i 1))]]) (g 239)]) [R (k 240 [v 183])],T [v 4,v 241] [s [],w .abs 4 [x (v 183) (n (i 1))]],F (v 242) (r (.Call (func:=.Name "isolate" (p 20 7 919)) (args:=[.Name "f" (p 28 1 919)]) (keywords:=[]) (pos:=(p 20 10 919))) 30) [A 243 (z (r (.Call (func:=.Name "refine" (p 15 6 920)) (args:=[.Name "f" (p 22 1 920),.Name "interval" (p 25 8 920),.Tuple (elts:=[.Constant (.int 1) 0 (p 36 1 920),.BinOp (left:=.Constant (.int 2) 0 (p 39 1 920)) (op:=.Mult) (right:=.Name "lead" (p 43 4 920)) (pos:=(p 39 8 920))]) (k:=0) (pos:=(p 35 13 920))]) (keywords:=[]) (pos:=(p 15 34 920))) 49) 1),M 4 .append 7 [k 26 [r (.Call (func:=.Name "rfloor" (p 25 6 921)) (args:=[.Call (func:=.Name "rmul" (p 32 4 921)) (args:=[.Name "high" (p 37 4 921),.Tuple (elts:=[.Name "lead" (p 44 4 921),.Constant (.int 1) 0 (p 50 1 921)]) (k:=0) (pos:=(p 43 9 921))]) (keywords:=[]) (pos:=(p 32 21 921))]) (keywords:=[]) (pos:=(p 25 29 921))) 54,v 241]] []],R (v 4)]
def Fb240:S:=ru 924 [I (m .Lt 3 (k 137 [v 183]) (i 1)) [R (s [])],TT [v 247,v 4,v 248] [dc,s [],k 21 [w .abs 4 [x (v 183) (n (i 1))]]] [true,true,false] [],F (v 24) (k 21 [w .abs 4 [z (v 183) 0]]) [F (v 22) (v 248) [F (v 232) (u [k 26 [v 24,v 22],k 26 [n (v 24),v 22]]) [I (m .NotIn 8 (v 232) (v 247)) [Cq 247 (v 232) (q (.bool true) 4) [],M 4 .append 7 [v 232] []]]]],R2 [v 4] [4]]
def Fb237:S:=ru 935 [A2 (v 4) (s []) true [],F (v 249) (v 250) [A 68 (i 0),W (an [m .Lt 3 (v 68) (w .len 4 [v 4]),m .Lt 3 (k 34 [z (x (v 4) (v 68)) 0,z (v 249) 0]) (i 0)]) [Bq 68 .Add 4 (i 1)],M 4 .insert 7 [v 68,v 249] []],R2 [v 4] [4]]
def Fb251:S:=ru 948 [A2 (v 4) (s []) true [],W (mg (w .len 4 [v 10]) (i 0)) [M 4 .append 7 [z (v 10) 0] [],A 10 (lc (bs (x (v 10) (ba (v 68) (i 1))) (x (v 10) (v 68))) [ge (v 68) (w .range 6 [bs (w .len 4 [v 10]) (i 1)])] [68] (l [18,68]++f [10]))],R2 [v 4] [4]]
def Fb254:S:=ru 954 [TT [v 134,v 4] [w .list 5 [v 252],s []] [true,true] [],F (v 253) (w .range 6 [ba (v 229) (i 1)]) [I (me (z (v 134) 0) (i 0)) [M 4 .append 7 [v 253] []],F (v 68) (w .range 6 [bs (w .len 4 [v 134]) (i 1)]) [ol q7 959 34]],R2 [v 4] [4]]
def Fb256:S:=ru 962 [T [v 4,v 255] [s [],i 1],F (v 68) (w .range 6 [bs (w .len 4 [v 252]) (i 1),n (i 1),n (i 1)]) [A 255 (bm (v 255) (j (ba (v 68) (i 1)))),A 4 (k 139 [s [bm (x (v 252) (v 68)) (v 255)],k 146 [s [bs (i 0) (v 68),i 1],v 4]])],R (k 150 [v 4])]
def Fb260:S:=ru 968 [A 5 (w .len 4 [v 252]),I (or [m .LtE 4 (v 229) (g 257),j (an [mg (v 5) (g 258),m .LtE 4 (bm (v 229) (v 5)) (g 259)])]) [R (k 254 [v 252,v 229])],I (mg (v 5) (g 258)) [ol q8 972 90],R (lc (z (v 232) 0) [gf (uu [v 232,v 5]) (k 238 [k 256 [v 252]]) [an [me (z (v 232) 1) (i 1),mm (i 0) [.LtE,.LtE] 4 [z (v 232) 0,v 229]]]] [232,5] (l [18,232,5]++f [229]))]
def Fb262:S:=ru 975 [T [v 4,v 261] [i 1,lc (w .abs 4 [v 213]) [ge (v 213) (v 183)] [213] (l [18,213]++h [2])],W (m .LtE 4 (bm (bm (i 2) (x (v 261) (n (i 1)))) (b (v 4) .Pow 4 (k 137 [v 183]))) (k 154 [v 261,v 4])) [A 4 (bm (v 4) (i 2))],R (v 4)]
def Fb265:S:=ru 980 [I (or [m .Lt 3 (k 137 [v 0]) (i 1),m .Lt 3 (k 137 [v 1]) (i 1)]) [R (s [])],T [v 0,v 1] [k 234 [v 0],k 234 [v 1]],T [v 263,v 229] [bm (k 137 [v 0]) (k 137 [v 1]),ba (k 262 [v 0]) (k 262 [v 1])],I (mg (bm (v 263) (w .min 4 [v 263,v 229])) (g 264)) [ra "limit" 7 "roots of polynomials of too high degrees" 42],I (m .LtE 4 (v 229) (v 263)) [R (lc (v 218) [gf (v 218) (w .range 6 [ba (v 229) (i 1)]) [me (k 223 [v 0,k 156 [v 1,v 218]]) (i 0)]] [218] (l [18,218]++h [223,156]++f [0,1]))],A 10 (lc (k 223 [v 0,k 156 [v 1,v 218]]) [ge (v 218) (w .range 6 [ba (v 263) (i 1)])] [218] (l [18,218]++h [223,156]++f [0,1])),R (k 260 [k 251 [v 10],v 229])]
def Fb266:S:=ru 992 [R (u [w .len 4 [v 0],e (mg (w .len 4 [v 0]) (i 0)) (w .len 4 [z (v 0) 0]) (i 0)])]
def Fb269:S:=ru 994 [I (nt (v 267)) [ol q9 995 36]]
def Fb270:S:=ru 997 [R (lc (w .list 5 [v 134]) [ge (v 134) (v 0)] [134] (l [18,134]++h [55]))]
def Fb276:S:=ru 1003 [TT [v 4,v 272] [k 270 [v 0],s []] [true,true] [],F (v 273) (w .range 6 [z (k 266 [v 0]) 1]) [A 134 (w .len 4 [v 272]),A 274 (lc (v 68) [gf (v 68) (w .range 6 [v 134,w .len 4 [v 4]]) [mn (x (x (v 4) (v 68)) (v 273)) (g 159)]] [68] (l [18,68]++h [159]++f [273,4])),I (me (w .len 4 [v 274]) (i 0)) [co],ol q10 1009 39,A 241 (x (x (v 4) (v 134)) (v 273)),Cq 4 (v 134) (lc (k 30 [v 16,v 241]) [ge (v 16) (x (v 4) (v 134))] [16] (l [18,16]++h [30]++f [241])) [],F (v 62) (w .range 6 [w .len 4 [v 4]]) [I (an [mn (v 62) (v 134),mn (x (x (v 4) (v 62)) (v 273)) (g 159)]) [ol q11 1014 65]],M 272 .append 7 [v 273] []],R2 [u [v 4,v 272]] [4,272]]
def Fb278:S:=ru 1019 [AA (uu [v 277,v 272]) (k 276 [v 0]),A2 (v 4) (s []) true [],F (v 273) (w .range 6 [z (k 266 [v 0]) 1]) [I (m .In 4 (v 273) (v 272)) [co],A2 (v 16) (bm (s [g 159]) (z (k 266 [v 0]) 1)) true [],Cq 16 (v 273) (g 167) [],F (uu [v 68,v 81]) (w .enumerate 10 [v 272]) [Cq 16 (v 81) (k 31 [x (x (v 277) (v 68)) (v 273)]) []],M 4 .append 7 [v 16] [16]],R2 [v 4] [4]]
def Fb280:S:=ru 1031 [ol q12 1031 70,A 279 (z (k 266 [v 0]) 1),AA (uu [v 277,v 272]) (k 276 [lc (ba (w .list 5 [v 134]) (s [x (v 1) (v 68)])) [ge (uu [v 68,v 134]) (w .enumerate 10 [v 0])] [68,134] (l [18,68,134]++h [55]++f [1])]),I (m .In 4 (v 279) (v 272)) [R (u [q .none 4,k 278 [v 0]])],A2 (v 4) (bm (s [g 159]) (v 279)) true [],F (uu [v 68,v 273]) (w .enumerate 10 [v 272]) [Cq 4 (v 273) (x (x (v 277) (v 68)) (v 279)) []],R2 [u [v 4,k 278 [v 0]]] [4]]
def Fb281:S:=ru 1043 [R (e (mn (v 218) (i 0)) (k 174 [v 136,s [u [v 218,i 1],g 167]]) (v 136))]
def Fb286:S:=ru 1056 [ol q13 1056 50]
def Fb288:S:=ru 1058 [A 243 (w .max 4 [k 158 [v 0],k 158 [v 1]]),I (or [mn (k 158 [v 0]) (k 158 [v 1]),mn (k 160 [v 0]) (k 160 [v 1])]) [R (bs (k 158 [v 282]) (v 243))],A 287 (ba (bs (k 158 [v 282]) (v 243)) (i 1)),A 219 (k 30 [k 28 [k 286 [v 1,bs (v 243) (i 1)],k 286 [v 0,bs (v 243) (i 1)]],k 160 [v 0]]),R (e (an [k 35 [v 219],m .GtE 4 (z (v 219) 0) (i 0)]) (w .max 4 [v 287,z (v 219) 0]) (v 287))]
def Fb289:S:=ru 1065 [R (k 161 [k 166 [v 0,k 281 [v 232,i 1]],k 162 [k 166 [v 1,v 232]]])]
def Fb293:S:=ru 1067 [I (me (v 282) (s [])) [R (s [])],A 263 (k 288 [v 0,v 1,v 282]),I (m .Lt 3 (v 263) (i 0)) [R (q .none 4)],I (mg (v 263) (g 283)) [ol q14 1073 102],A 290 (lc (k 289 [v 0,v 1,k 165 [s [g 167],v 151]]) [ge (v 151) (w .range 6 [ba (v 263) (i 1)])] [151] (l [18,151]++h [289,165,167]++f [0,1])),A 224 (w .max 4 [ba (lc (w .len 4 [v 273]) [ge (v 273) (v 290)] [273] (l [18,273]++h [42])) (s [w .len 4 [v 282]])]),A 291 (lc (lc (k 286 [v 273,v 151]) [ge (v 273) (v 290)] [273] (l [18,273]++h [286]++f [151])) [ge (v 151) (w .range 6 [v 224])] [151] (l [18]++c [151]++f [290])),A 4 (z (k 280 [v 291,lc (k 286 [v 282,v 151]) [ge (v 151) (w .range 6 [v 224])] [151] (l [18,151]++h [286]++f [282])]) 0),R (e (m .Is 4 (v 4) (q .none 4)) (q .none 4) (k 292 [v 4]))]
def Fb292:S:=ru 1080 [A 133 (w .len 4 [v 136]),W (an [mg (v 133) (i 0),me (x (v 136) (bs (v 133) (i 1))) (g 159)]) [Bq 133 .Sub 4 (i 1)],R (x (v 136) (sl [] [v 133]))]
def Fb297:S:=ru 1091 [TT [v 5,v 90] [i 0,s []] [false,true] [],F (v 93) (e (me (z (v 88) 0) (t "prod" 6)) (z (v 88) 1) (u1 (v 88))) [I (nt (k 61 [v 93,v 38])) [M 90 .append 7 [v 93] [],co],AA (uu [v 47,v 48]) (k 101 [v 93]),I (or [mn (v 47) (u [t "sym" 5,v 38]),nt (k 53 [v 48]),m .Lt 3 (z (v 48) 1) (i 0)]) [R (q .none 4)],Bq 5 .Add 4 (z (v 48) 1)],R2 [u [v 5,e (mg (w .len 4 [v 90]) (i 0)) (k 106 [v 90]) (g 89)]] [90]]
def Fb298:S:=ru 1102 [A2 (v 4) dc true [],F (v 93) (k 111 [k 132 [v 88]]) [A 36 (k 297 [v 93,v 38]),I (m .Is 4 (v 36) (q .none 4)) [R (q .none 4)],Cq 4 (z (v 36) 0) (k 97 [s [mt (v 4) .get 5 [z (v 36) 0,g 98],z (v 36) 1]]) []],R (lc (u [v 5,x (v 4) (v 5)]) [gf (v 5) (w .sorted 7 [v 4]) [mn (x (v 4) (v 5)) (g 98)]] [5] (l [18,5]++h [98]++f [4]))]
def Fb300:S:=ru 1119 [I (mg (w .max 4 [k 158 [z (v 183) 0],k 158 [z (v 183) 1]]) (g 299)) [R (q .none 4)],R (k 187 [k 181 [k 281 [z (v 183) 0,i 1],k 281 [z (v 183) 1,i 1]],v 183])]
def Fb304:S:=ru 1123 [T [v 47,v 48] [z (v 88) 1,z (v 88) 2],I (k 53 [v 48]) [T [v 4,v 5] [k 301 [v 47,v 38],z (k 52 [v 48]) 0],I (or [m .Is 4 (v 4) (q .none 4),me (v 4) (g 188)]) [R (v 4)],A 117 (k 8 [w .max 4 [lc (w .max 4 [w .abs 4 [z (v 86) 0],z (v 86) 1]) [ge (v 86) (ba (z (v 4) 0) (z (v 4) 1))] [86] (l [18,86]++h [112,2])]]),I (or [mg (bm (w .max 4 [k 158 [z (v 4) 0],k 158 [z (v 4) 1]]) (w .abs 4 [v 5])) (g 302),mg (bm (w .abs 4 [v 5]) (v 117)) (g 118)]) [R (q .none 4)],AA (uu [v 24,v 22]) (e (m .Lt 3 (v 5) (i 0)) (k 186 [v 4]) (v 4)),R (u [k 169 [v 24,w .abs 4 [v 5]],k 169 [v 22,w .abs 4 [v 5]]])],A 36 (r (.Call (func:=.Name "linear_parts" (p 11 12 1133)) (args:=[.Name "exponent" (p 24 8 1133),.Name "name" (p 34 4 1133)]) (keywords:=[]) (pos:=(p 11 28 1133))) 39),I (or [m .Is 4 (v 36) (q .none 4),nt (k 51 [v 47]),me (z (k 52 [v 47]) 0) (i 0)]) [R (q .none 4)],R (k 182 [r (.Call (func:=.Name "rpower" (p 19 6 1136)) (args:=[.Call (func:=.Name "num_of" (p 26 6 1136)) (args:=[.Name "base" (p 33 4 1136)]) (keywords:=[]) (pos:=(p 26 12 1136)),.Subscript (value:=.Name "told" (p 40 4 1136)) (slice:=.Constant (.int 0) 0 (p 45 1 1136)) (pos:=(p 40 7 1136))]) (keywords:=[]) (pos:=(p 19 29 1136))) 48])]
def Fb305:S:=ru 1146 [I (or [me (v 16) (g 188),me (v 62) (g 188)]) [R (e (me (v 16) (g 188)) (v 62) (v 16))],I (mg (w .max 4 [ba (k 158 [z (v 16) 0]) (k 158 [z (v 62) 0]),ba (k 158 [z (v 16) 1]) (k 158 [z (v 62) 1])]) (g 299)) [R (q .none 4)],R (k 185 [v 16,v 62])]
def Fb301:S:=ru 1152 [I (nt (k 61 [v 88,v 38])) [R (g 188)],I (me (z (v 88) 0) (t "pow" 5)) [R (k 304 [v 88,v 38])],I (an [me (z (v 88) 0) (t "call" 6),me (z (v 88) 1) (t "factorial" 11),j (me (w .len 4 [z (v 88) 2]) (i 1))]) [R (r (.Call (func:=.Name "factorial_ratio" (p 15 15 1157)) (args:=[.Subscript (value:=.Subscript (value:=.Name "t" (p 31 1 1157)) (slice:=.Constant (.int 2) 0 (p 33 1 1157)) (pos:=(p 31 4 1157))) (slice:=.Constant (.int 0) 0 (p 36 1 1157)) (pos:=(p 31 7 1157)),.Name "name" (p 40 4 1157)]) (keywords:=[]) (pos:=(p 15 30 1157))) 45)],I (mn (z (v 88) 0) (t "prod" 6)) [A 183 (k 199 [v 88,v 38]),R (e (or [m .Is 4 (v 183) (q .none 4),me (z (v 183) 0) (s [])]) (q .none 4) (k 300 [v 183]))],A 4 (g 188),F (v 93) (z (v 88) 1) [A 16 (k 301 [v 93,v 38]),A 4 (e (m .Is 4 (v 16) (q .none 4)) (q .none 4) (k 305 [v 4,v 16])),I (m .Is 4 (v 4) (q .none 4)) [R (q .none 4)]],R (v 4)]
def Fb309:S:=ru 1169 [A 250 (k 298 [v 88,v 38]),I (m .Is 4 (v 250) (q .none 4)) [R (q .none 4)],I (an [mg (w .len 4 [v 250]) (i 0),mg (z (x (v 250) (n (i 1))) 0) (g 302)]) [ol q15 1173 79],R (k 44 [lc (k 46 [s [v 36,k 206 [r (.Call (func:=.Name "fpoly" (p 42 5 1174)) (args:=[.Call (func:=.Name "power_sum" (p 48 9 1174)) (args:=[.Name "many" (p 58 4 1174)]) (keywords:=[]) (pos:=(p 48 15 1174))]) (keywords:=[]) (pos:=(p 42 22 1174))) 64,v 38]]]) [ge (uu [v 5,v 36]) (v 250)] [5,36] (l [18,5,36]++h [46,206,307,308]++f [38])])]
def Fb316:S:=ru 1216 [I (me (z (v 88) 0) (t "num" 5)) [R (u [z (v 88) 1,z (v 88) 2])],I (me (z (v 88) 0) (t "sym" 5)) [R (u [v 7,i 1])],I (me (z (v 88) 0) (t "pow" 5)) [AA (uu [v 24,v 22]) (k 316 [z (v 88) 1,v 7]),A 5 (z (z (v 88) 2) 1),R (e (mg (v 5) (i 0)) (u [b (v 24) .Pow 4 (v 5),b (v 22) .Pow 4 (v 5)]) (u [b (v 22) .Pow 4 (j (bs (i 0) (v 5))),b (v 24) .Pow 4 (j (bs (i 0) (v 5)))]))],AA (uu [v 24,v 22]) (e (me (z (v 88) 0) (y 121)) (u [i 0,i 1]) (u [i 1,i 1])),F (v 93) (z (v 88) 1) [AA (uu [v 16,v 62]) (k 316 [v 93,v 7]),T [v 24,v 22] [e (me (z (v 88) 0) (y 121)) (ba (bm (v 24) (v 62)) (bm (v 16) (v 22))) (bm (v 24) (v 16)),bm (v 22) (v 62)]],R (u [v 24,v 22])]
end
noncomputable def tN (i:Int):D:= .tuple [.str "num", .int i, .int 1]
noncomputable def r0:D:= .tuple [.int 0, .int 1]
noncomputable def r1:D:= .tuple [.int 1, .int 1]
section
def gcT:Tr (Nat×D):=(.node 178 (.node 116 (.node 89 (.node 45 (.leaf (41,(tN 0))) (.node 75 (.leaf (45,(tN 1))) (.leaf (75,(.dict [(.str "sym", .int 0),(.str "call", .int 1),(.str "sum", .int 2),(.str "prod", .int 3),(.str "num", .int 4),(.str "pow", .int 5),(.str "eq", .int 6),(.str "list", .int 7)]))))) (.node 98 (.leaf (89,(tN 1))) (.node 100 (.leaf (98,(tN 0))) (.leaf (100,(.tuple [.str "call", .str "exp", .tuple [tN 1]])))))) (.node 125 (.node 118 (.leaf (116,(.int 300000))) (.node 124 (.leaf (118,(.int 200000))) (.leaf (124,(.int 1000))))) (.node 159 (.leaf (125,(tN (-1)))) (.node 167 (.leaf (159,(r0))) (.leaf (167,(r1))))))) (.node 258 (.node 204 (.node 188 (.leaf (178,(.tuple [.list [], .list [r1]]))) (.node 193 (.leaf (188,(.tuple [.list [r1], .list [r1]]))) (.leaf (193,(.int 2000))))) (.node 239 (.leaf (204,(tN (-1)))) (.node 257 (.leaf (239,(.int 10000000000))) (.leaf (257,(.int 1000)))))) (.node 283 (.node 259 (.leaf (258,(.int 40))) (.node 264 (.leaf (259,(.int 10000000))) (.leaf (264,(.int 1000000))))) (.node 299 (.leaf (283,(.int 200))) (.node 302 (.leaf (299,(.int 50))) (.leaf (302,(.int 200))))))))
def gc (i:Nat):Option D:=bnd (gcT.at i) fun p=>zAA (Nat.beq p.1 i) (some p.2) none
noncomputable def rkT:Tr Nat:=(.node 163 (.node 87 (.node 49 (.node 29 (.node 15 (.node 11 (.node 8 (.leaf 0) (.leaf 0)) (.node 13 (.leaf 1) (.leaf 0))) (.node 26 (.node 21 (.leaf 1) (.leaf 2)) (.node 27 (.leaf 1) (.node 28 (.leaf 2) (.leaf 2))))) (.node 35 (.node 31 (.node 30 (.leaf 2) (.leaf 2)) (.node 32 (.leaf 0) (.node 34 (.leaf 2) (.leaf 0)))) (.node 39 (.node 37 (.leaf 0) (.leaf 2)) (.node 44 (.leaf 0) (.node 46 (.leaf 0) (.leaf 0)))))) (.node 64 (.node 56 (.node 52 (.node 51 (.leaf 0) (.leaf 0)) (.node 53 (.leaf 0) (.leaf 0))) (.node 60 (.node 59 (.leaf 0) (.leaf 1)) (.node 61 (.leaf 2) (.node 63 (.leaf 3) (.leaf 0))))) (.node 74 (.node 67 (.node 66 (.leaf 1) (.leaf 1)) (.node 71 (.leaf 0) (.node 73 (.leaf 2) (.leaf 2)))) (.node 79 (.node 76 (.leaf 2) (.leaf 2)) (.node 83 (.leaf 2) (.node 85 (.leaf 3) (.leaf 4))))))) (.node 137 (.node 110 (.node 97 (.node 92 (.node 91 (.leaf 0) (.leaf 0)) (.node 95 (.leaf 1) (.leaf 0))) (.node 101 (.node 99 (.leaf 5) (.leaf 0)) (.node 105 (.leaf 1) (.node 106 (.leaf 6) (.leaf 6))))) (.node 123 (.node 113 (.node 111 (.leaf 7) (.leaf 0)) (.node 120 (.leaf 1) (.node 122 (.leaf 7) (.leaf 8)))) (.node 130 (.node 129 (.leaf 8) (.leaf 9)) (.node 132 (.leaf 10) (.node 135 (.leaf 11) (.leaf 0)))))) (.node 148 (.node 141 (.node 139 (.node 138 (.leaf 0) (.leaf 0)) (.node 140 (.leaf 1) (.leaf 0))) (.node 144 (.node 143 (.leaf 2) (.leaf 0)) (.node 146 (.leaf 0) (.node 147 (.leaf 0) (.leaf 2))))) (.node 157 (.node 152 (.node 150 (.leaf 0) (.leaf 3)) (.node 154 (.leaf 0) (.node 156 (.leaf 0) (.leaf 0)))) (.node 160 (.node 158 (.leaf 0) (.leaf 0)) (.node 161 (.leaf 0) (.node 162 (.leaf 3) (.leaf 1)))))))) (.node 233 (.node 196 (.node 177 (.node 169 (.node 165 (.node 164 (.leaf 4) (.leaf 3)) (.node 166 (.leaf 0) (.leaf 3))) (.node 172 (.node 171 (.leaf 4) (.leaf 5)) (.node 173 (.leaf 4) (.node 174 (.leaf 6) (.leaf 4))))) (.node 186 (.node 182 (.node 181 (.leaf 4) (.leaf 7)) (.node 184 (.leaf 0) (.node 185 (.leaf 8) (.leaf 8)))) (.node 189 (.node 187 (.leaf 8) (.leaf 8)) (.node 190 (.leaf 9) (.node 195 (.leaf 0) (.leaf 10)))))) (.node 211 (.node 203 (.node 199 (.node 198 (.leaf 1) (.leaf 11)) (.node 200 (.leaf 12) (.leaf 3))) (.node 206 (.node 205 (.leaf 8) (.leaf 9)) (.node 207 (.leaf 10) (.node 208 (.leaf 0) (.leaf 3))))) (.node 223 (.node 214 (.node 212 (.leaf 3) (.leaf 4)) (.node 217 (.leaf 0) (.node 221 (.leaf 4) (.leaf 5)))) (.node 227 (.node 226 (.leaf 6) (.leaf 0)) (.node 230 (.leaf 5) (.node 231 (.leaf 6) (.leaf 0))))))) (.node 280 (.node 256 (.node 237 (.node 235 (.node 234 (.leaf 1) (.leaf 7)) (.node 236 (.leaf 0) (.leaf 4))) (.node 240 (.node 238 (.leaf 1) (.leaf 5)) (.node 251 (.leaf 3) (.node 254 (.leaf 0) (.leaf 0))))) (.node 269 (.node 262 (.node 260 (.leaf 4) (.leaf 6)) (.node 265 (.leaf 1) (.node 266 (.leaf 8) (.leaf 0)))) (.node 271 (.node 270 (.leaf 0) (.leaf 0)) (.node 276 (.leaf 0) (.node 278 (.leaf 3) (.leaf 4)))))) (.node 297 (.node 288 (.node 285 (.node 281 (.leaf 5) (.leaf 5)) (.node 286 (.leaf 9) (.leaf 0))) (.node 292 (.node 289 (.leaf 3) (.leaf 6)) (.node 293 (.leaf 0) (.node 296 (.leaf 7) (.leaf 10))))) (.node 305 (.node 300 (.node 298 (.leaf 7) (.leaf 12)) (.node 301 (.leaf 9) (.node 304 (.leaf 13) (.leaf 13)))) (.node 312 (.node 309 (.leaf 9) (.leaf 13)) (.node 315 (.leaf 14) (.node 316 (.leaf 15) (.leaf 0)))))))))
def sel (lows:List (Nat→List D→Option D)) (own:Nat→List D→Option D) (f:Nat) (ds:List D):Option D:=bnd (rkT.at f) fun k=>bnd (zFW (app lows [own]) k) fun c=>bnd (c f ds) some
def lev (lows:List (Nat→List D→Option D)) (tab:Tr (Nat×Fn)) (n:Nat):Nat→List D→Option D:=Nat.rec (motive:=fun V=>Nat→List D→Option D) (fun V V=>none) (fun V ih f ds=>bnd (tab.at f) fun p=>zAA (Nat.beq p.1 f) (runF gc (sel lows ih) p.2 ds) none) n
def fnT0:Tr (Nat×Fn):=(.node 144 (.node 56 (.node 39 (.node 31 (.node 8 (.leaf (3,⟨[0,1],Fs3,Fb3⟩)) (.node 13 (.leaf (8,⟨[7],Fs8,Fb8⟩)) (.leaf (13,⟨[7,12],Fs13,Fb13⟩)))) (.node 34 (.leaf (31,⟨[0],Fs31,Fb31⟩)) (.node 35 (.leaf (34,⟨[0,1],Fs34,Fb34⟩)) (.leaf (35,⟨[0],Fs35,Fb35⟩))))) (.node 49 (.node 44 (.leaf (39,⟨[38],Fs39,Fb39⟩)) (.node 46 (.leaf (44,⟨[40],Fs44,Fb44⟩)) (.leaf (46,⟨[40],Fs46,Fb46⟩)))) (.node 52 (.node 51 (.leaf (49,⟨[47,48],Fs49,Fb49⟩)) (.leaf (51,⟨[50],Fs51,Fb51⟩))) (.node 53 (.leaf (52,⟨[50],Fs52,Fb52⟩)) (.leaf (53,⟨[50],Fs53,Fb53⟩)))))) (.node 99 (.node 87 (.node 63 (.leaf (56,⟨[50],Fs56,Fb56⟩)) (.node 67 (.leaf (63,⟨[16,62],Fs63,Fb63⟩)) (.leaf (67,⟨[50],Fs67,Fb67⟩)))) (.node 91 (.leaf (87,⟨[86],Fs87,Fb87⟩)) (.node 95 (.leaf (91,⟨[88],Fs91,Fb91⟩)) (.leaf (95,⟨[94,54],Fs95,Fb95⟩))))) (.node 137 (.node 111 (.leaf (99,⟨[88,38],Fs99,Fb99⟩)) (.node 135 (.leaf (111,⟨[88],Fs111,Fb111⟩)) (.leaf (135,⟨[134],Fs135,Fb135⟩)))) (.node 140 (.node 138 (.leaf (137,⟨[136],Fs137,Fb137⟩)) (.leaf (138,⟨[136],Fs138,Fb138⟩))) (.node 143 (.leaf (140,⟨[136],Fs140,Fb140⟩)) (.leaf (143,⟨[136,142],Fs143,Fb143⟩))))))) (.node 214 (.node 157 (.node 152 (.node 146 (.leaf (144,⟨[136,5],Fs144,Fb144⟩)) (.node 148 (.leaf (146,⟨[0,1],Fs146,Fb146⟩)) (.leaf (148,⟨[136,142],Fs148,Fb148⟩)))) (.node 154 (.leaf (152,⟨[136],Fs152,Fb152⟩)) (.node 156 (.leaf (154,⟨[136,7],Fs154,Fb154⟩)) (.leaf (156,⟨[136,7],Fs156,Fb156⟩))))) (.node 165 (.node 158 (.leaf (157,⟨[134],Fs157,Fb157⟩)) (.node 160 (.leaf (158,⟨[136],Fs158,Fb158⟩)) (.leaf (160,⟨[136],Fs160,Fb160⟩)))) (.node 190 (.node 182 (.leaf (165,⟨[136,5],Fs165,Fb165⟩)) (.leaf (182,⟨[86],Fs182,Fb182⟩))) (.node 207 (.leaf (190,⟨[88],Fs190,Fb190⟩)) (.leaf (207,⟨[136],Fs207,Fb207⟩)))))) (.node 266 (.node 235 (.node 226 (.leaf (214,⟨[136,9],Fs214,Fb214⟩)) (.node 231 (.leaf (226,⟨[225,6,224],Fs226,Fb226⟩)) (.leaf (231,⟨[9],Fs231,Fb231⟩)))) (.node 251 (.leaf (235,⟨[232],Fs235,Fb235⟩)) (.node 254 (.leaf (251,⟨[10],Fs251,Fb251⟩)) (.leaf (254,⟨[252,229],Fs254,Fb254⟩))))) (.node 271 (.node 269 (.leaf (266,⟨[0],Fs266,Fb266⟩)) (.node 270 (.leaf (269,⟨[267,268],Fs269,Fb269⟩)) (.leaf (270,⟨[0],Fs270,Fb270⟩)))) (.node 292 (.node 286 (.leaf (271,⟨[0,16,62],Fs271,Fb271⟩)) (.leaf (286,⟨[136,151],Fs286,Fb286⟩))) (.node 316 (.leaf (292,⟨[136],Fs292,Fb292⟩)) (.leaf (316,⟨[88,7],Fs316,Fb316⟩))))))))
def C0:Nat→List D→Option D:=lev [] fnT0 40
def fnT1:Tr (Nat×Fn):=(.node 101 (.node 59 (.node 15 (.leaf (11,⟨[10],Fs11,Fb11⟩)) (.node 26 (.leaf (15,⟨[7],Fs15,Fb15⟩)) (.leaf (26,⟨[24,22],Fs26,Fb26⟩)))) (.node 66 (.node 64 (.leaf (59,⟨[50],Fs59,Fb59⟩)) (.leaf (64,⟨[16,62],Fs64,Fb64⟩))) (.node 92 (.leaf (66,⟨[50],Fs66,Fb66⟩)) (.leaf (92,⟨[86,90],Fs92,Fb92⟩))))) (.node 196 (.node 139 (.node 113 (.leaf (101,⟨[88],Fs101,Fb101⟩)) (.leaf (113,⟨[88],Fs113,Fb113⟩))) (.node 162 (.leaf (139,⟨[0,1],Fs139,Fb139⟩)) (.leaf (162,⟨[136],Fs162,Fb162⟩)))) (.node 237 (.node 233 (.leaf (196,⟨[88,38],Fs196,Fb196⟩)) (.leaf (233,⟨[136,232],Fs233,Fb233⟩))) (.node 262 (.leaf (237,⟨[250],Fs237,Fb237⟩)) (.leaf (262,⟨[183],Fs262,Fb262⟩))))))
def C1:Nat→List D→Option D:=lev [C0] fnT1 40
def fnT2:Tr (Nat×Fn):=(.node 60 (.node 29 (.node 27 (.leaf (21,⟨[7],Fs21,Fb21⟩)) (.node 28 (.leaf (27,⟨[0,1],Fs27,Fb27⟩)) (.leaf (28,⟨[0,1],Fs28,Fb28⟩)))) (.node 32 (.node 30 (.leaf (29,⟨[0,1],Fs29,Fb29⟩)) (.leaf (30,⟨[0,1],Fs30,Fb30⟩))) (.node 37 (.leaf (32,⟨[0],Fs32,Fb32⟩)) (.leaf (37,⟨[24,22],Fs37,Fb37⟩))))) (.node 76 (.node 73 (.node 71 (.leaf (60,⟨[50],Fs60,Fb60⟩)) (.leaf (71,⟨[16,62],Fs71,Fb71⟩))) (.node 74 (.leaf (73,⟨[69,70],Fs73,Fb73⟩)) (.leaf (74,⟨[16,62],Fs74,Fb74⟩)))) (.node 141 (.node 79 (.leaf (76,⟨[16,62],Fs76,Fb76⟩)) (.leaf (79,⟨[16,62],Fs79,Fb79⟩))) (.node 147 (.leaf (141,⟨[0,1],Fs141,Fb141⟩)) (.leaf (147,⟨[136],Fs147,Fb147⟩))))))
def C2:Nat→List D→Option D:=lev [C0,C1] fnT2 40
def fnT3:Tr (Nat×Fn):=(.node 200 (.node 161 (.node 83 (.leaf (61,⟨[50,38],Fs61,Fb61⟩)) (.node 150 (.leaf (83,⟨[69,70],Fs83,Fb83⟩)) (.leaf (150,⟨[136],Fs150,Fb150⟩)))) (.node 164 (.leaf (161,⟨[0,1],Fs161,Fb161⟩)) (.node 166 (.leaf (164,⟨[136,86],Fs164,Fb164⟩)) (.leaf (166,⟨[0,1],Fs166,Fb166⟩))))) (.node 240 (.node 208 (.leaf (200,⟨[86],Fs200,Fb200⟩)) (.node 211 (.leaf (208,⟨[0,1],Fs208,Fb208⟩)) (.leaf (211,⟨[0,1],Fs211,Fb211⟩)))) (.node 276 (.leaf (240,⟨[183],Fs240,Fb240⟩)) (.node 288 (.leaf (276,⟨[0],Fs276,Fb276⟩)) (.leaf (288,⟨[0,1,282],Fs288,Fb288⟩))))))
def C3:Nat→List D→Option D:=lev [C0,C1,C2] fnT3 1
def fnT4:Tr (Nat×Fn):=(.node 177 (.node 169 (.node 163 (.leaf (85,⟨[40],Fs85,Fb85⟩)) (.leaf (163,⟨[0,1],Fs163,Fb163⟩))) (.node 172 (.leaf (169,⟨[136,5],Fs169,Fb169⟩)) (.node 174 (.leaf (172,⟨[136],Fs172,Fb172⟩)) (.leaf (174,⟨[0,1],Fs174,Fb174⟩))))) (.node 236 (.node 212 (.leaf (177,⟨[175],Fs177,Fb177⟩)) (.node 217 (.leaf (212,⟨[0,1],Fs212,Fb212⟩)) (.leaf (217,⟨[0,1],Fs217,Fb217⟩)))) (.node 256 (.leaf (236,⟨[183],Fs236,Fb236⟩)) (.node 278 (.leaf (256,⟨[252],Fs256,Fb256⟩)) (.leaf (278,⟨[0],Fs278,Fb278⟩))))))
def C4:Nat→List D→Option D:=lev [C0,C1,C2,C3] fnT4 40
def fnT5:Tr (Nat×Fn):=(.node 227 (.node 171 (.leaf (97,⟨[94],Fs97,Fb97⟩)) (.node 221 (.leaf (171,⟨[0,1],Fs171,Fb171⟩)) (.leaf (221,⟨[0,1,220],Fs221,Fb221⟩)))) (.node 280 (.node 238 (.leaf (227,⟨[0,1],Fs227,Fb227⟩)) (.leaf (238,⟨[183],Fs238,Fb238⟩))) (.node 281 (.leaf (280,⟨[0,1],Fs280,Fb280⟩)) (.leaf (281,⟨[136,218],Fs281,Fb281⟩)))))
def C5:Nat→List D→Option D:=lev [C0,C1,C2,C3,C4] fnT5 40
def fnT6:Tr (Nat×Fn):=(.node 223 (.node 106 (.leaf (105,⟨[47,48],Fs105,Fb105⟩)) (.node 173 (.leaf (106,⟨[94],Fs106,Fb106⟩)) (.leaf (173,⟨[0,1],Fs173,Fb173⟩)))) (.node 260 (.node 230 (.leaf (223,⟨[0,1],Fs223,Fb223⟩)) (.leaf (230,⟨[0,1],Fs230,Fb230⟩))) (.node 289 (.leaf (260,⟨[252,229],Fs260,Fb260⟩)) (.leaf (289,⟨[0,1,232],Fs289,Fb289⟩)))))
def C6:Nat→List D→Option D:=lev [C0,C1,C2,C3,C4,C5] fnT6 40
def fnT7:Tr (Nat×Fn):=(.node 234 (.node 120 (.leaf (110,⟨[88],Fs110,Fb110⟩)) (.node 181 (.leaf (120,⟨[16,62],Fs120,Fb120⟩)) (.leaf (181,⟨[24,22],Fs181,Fb181⟩)))) (.node 293 (.leaf (234,⟨[183],Fs234,Fb234⟩)) (.node 297 (.leaf (293,⟨[0,1,282],Fs293,Fb293⟩)) (.leaf (297,⟨[88,38],Fs297,Fb297⟩)))))
def C7:Nat→List D→Option D:=lev [C0,C1,C2,C3,C4,C5,C6] fnT7 40
def fnT8:Tr (Nat×Fn):=(.node 186 (.node 184 (.node 123 (.leaf (122,⟨[94],Fs122,Fb122⟩)) (.leaf (123,⟨[47,5],Fs123,Fb123⟩))) (.node 185 (.leaf (184,⟨[183,23],Fs184,Fb184⟩)) (.leaf (185,⟨[183,23],Fs185,Fb185⟩)))) (.node 203 (.node 187 (.leaf (186,⟨[183],Fs186,Fb186⟩)) (.leaf (187,⟨[183,23],Fs187,Fb187⟩))) (.node 265 (.leaf (203,⟨[136,202],Fs203,Fb203⟩)) (.leaf (265,⟨[0,1],Fs265,Fb265⟩)))))
def C8:Nat→List D→Option D:=lev [C0,C1,C2,C3,C4,C5,C6,C7] fnT8 1
def fnT9:Tr (Nat×Fn):=(.node 285 (.node 189 (.leaf (129,⟨[47,48],Fs129,Fb129⟩)) (.node 205 (.leaf (189,⟨[183,7],Fs189,Fb189⟩)) (.leaf (205,⟨[183,202],Fs205,Fb205⟩)))) (.node 300 (.leaf (285,⟨[24,22],Fs285,Fb285⟩)) (.node 305 (.leaf (300,⟨[183],Fs300,Fb300⟩)) (.leaf (305,⟨[16,62],Fs305,Fb305⟩)))))
def C9:Nat→List D→Option D:=lev [C0,C1,C2,C3,C4,C5,C6,C7,C8] fnT9 1
def zQW:Tr (Nat×Fn):=(.node 206 (.node 195 (.leaf (130,⟨[88],Fs130,Fb130⟩)) (.leaf (195,⟨[183,7],Fs195,Fb195⟩))) (.node 296 (.leaf (206,⟨[183,38],Fs206,Fb206⟩)) (.leaf (296,⟨[294],Fs296,Fb296⟩))))
def C10:Nat→List D→Option D:=lev [C0,C1,C2,C3,C4,C5,C6,C7,C8,C9] zQW 40
def zQV:Tr (Nat×Fn):=(.node 198 (.leaf (132,⟨[88],Fs132,Fb132⟩)) (.leaf (198,⟨[88,38],Fs198,Fb198⟩)))
def C11:Nat→List D→Option D:=lev [C0,C1,C2,C3,C4,C5,C6,C7,C8,C9,C10] zQV 40
def zQU:Tr (Nat×Fn):=(.node 298 (.leaf (199,⟨[88,38],Fs199,Fb199⟩)) (.leaf (298,⟨[88,38],Fs298,Fb298⟩)))
def C12:Nat→List D→Option D:=lev [C0,C1,C2,C3,C4,C5,C6,C7,C8,C9,C10,C11] zQU 1
def zQT:Tr (Nat×Fn):=(.node 304 (.leaf (301,⟨[88,38],Fs301,Fb301⟩)) (.node 309 (.leaf (304,⟨[88,38],Fs304,Fb304⟩)) (.leaf (309,⟨[88,38],Fs309,Fb309⟩))))
def C13:Nat→List D→Option D:=lev [C0,C1,C2,C3,C4,C5,C6,C7,C8,C9,C10,C11,C12] zQT 40
def zQS:Tr (Nat×Fn):=(.leaf (312,⟨[88,38],Fs312,Fb312⟩))
def C14:Nat→List D→Option D:=lev [C0,C1,C2,C3,C4,C5,C6,C7,C8,C9,C10,C11,C12,C13] zQS 1
def zQR:Tr (Nat×Fn):=(.leaf (315,⟨[88,38],Fs315,Fb315⟩))
def C15:Nat→List D→Option D:=lev [C0,C1,C2,C3,C4,C5,C6,C7,C8,C9,C10,C11,C12,C13,C14] zQR 1
def zAR (f:Nat) (ds:List D):Option D:=bnd (rkT.at f) fun k=>bnd (zFW [C0,C1,C2,C3,C4,C5,C6,C7,C8,C9,C10,C11,C12,C13,C14,C15] k) fun c=>c f ds
noncomputable def sN:D:= .str "n"
def sym:D:= .tuple [.str "sym",sN]
end
section
noncomputable abbrev zBz (vs:Array Value) (n:Nat):Obj:={cls:= .type "list",dict:=none,data:= .seq vs n,slots:= #[]}
noncomputable abbrev zPH (vs:Array Value) (n:Nat):Obj:={cls:= .type "tuple",dict:=none,data:= .seq vs n,slots:= #[]}
mutual
inductive RdW (W:Addr→Prop) (h:Heap):Value→D→Prop
 | none:RdW W h .none .none
 | bool (b):RdW W h (.bool b) (.bool b)
 | int (i t):RdW W h (.int i t) (.int i)
 | str (x t):PyData.strOk x=true→RdW W h (.str x t) (.str x)
 | list {a vs n xs}:h.get? a=some (zBz vs n)→¬W a→zAK W h vs.toList xs→RdW W h (.ref a) (.list xs)
 | tuple {a vs n xs}:h.get? a=some (zPH vs n)→¬W a→zAK W h vs.toList xs→RdW W h (.ref a) (.tuple xs)
inductive zAK (W:Addr→Prop) (h:Heap):List Value→List D→Prop
 | nil:zAK W h [] []
 | cons {v vs d ds}:RdW W h v d→zAK W h vs ds→zAK W h (v :: vs) (d :: ds)
end
section
variable {W W':Addr→Prop} {h h':Heap}
theorem zLg {P:Value→D→Prop} {Ps:List Value→List D→Prop} (hn:P .none .none) (hb: ∀b,P (.bool b) (.bool b)) (hi: ∀i t,P (.int i t) (.int i)) (hs: ∀x t,PyData.strOk x=true→P (.str x t) (.str x))
  (hl: ∀{a vs n xs},h.get? a=some (zBz vs n)→¬W a→zAK W h vs.toList xs→Ps vs.toList xs→P (.ref a) (.list xs)) (ht: ∀{a vs n xs},h.get? a=some (zPH vs n)→¬W a→zAK W h vs.toList xs→Ps vs.toList xs→P (.ref a) (.tuple xs))
  (h0:Ps [] []) (hc: ∀{v vs d ds},P v d→Ps vs ds→Ps (v :: vs) (d :: ds)):(∀{v d},RdW W h v d→P v d)∧∀{vs ds},zAK W h vs ds→Ps vs ds:=
 ⟨fun r=>RdW.rec (motive_1:=fun v d V=>P v d) (motive_2:=fun vs ds V=>Ps vs ds) hn hb hi hs hl ht h0 (fun V V=>hc) r,
  fun r=>zAK.rec (motive_1:=fun v d V=>P v d) (motive_2:=fun vs ds V=>Ps vs ds) hn hb hi hs hl ht h0 (fun V V=>hc) r⟩
theorem zJr:(∀{v d},RdW W h v d→∃as,Reads h v d as)∧∀{vs ds},zAK W h vs ds→∃as,ReadsAll h vs ds as:=
 zLg ⟨_, .none⟩ (fun b=>⟨_, .bool b⟩) (fun i t=>⟨_, .int i t⟩) (fun x t V=>⟨_, .str x t⟩) (fun g V V i=>i.elim fun V r=>⟨_, .list g rfl rfl r⟩) (fun g V V i=>i.elim fun V r=>⟨_, .tuple g rfl rfl r⟩) ⟨_, .nil⟩
  fun i j=>i.elim fun V r=>j.elim fun V q=>⟨_, .cons r q⟩
theorem RdW.reads {v:Value} {d:D} (r:RdW W h v d): ∃as,Reads h v d as:=zJr.1 r
theorem zAK.reads {vs:List Value} {ds:List D} (r:zAK W h vs ds): ∃as,ReadsAll h vs ds as:=zJr.2 r
theorem zNN:(∀{v d},RdW W h v d→d.canLay0=true)∧∀{vs ds},zAK W h vs ds→PyData.canLayAll0 ds=true:=
 zLg (by simp [PyData.canLay0]) (fun V=>by simp [PyData.canLay0]) (fun V V=>by simp [PyData.canLay0]) (fun x t hx=>by simpa [PyData.canLay0] using hx) (fun V V V i=>by simpa [PyData.canLay0] using i) (fun V V V i=>by simpa [PyData.canLay0] using i)
  (by simp [PyData.canLayAll0]) fun i j=>by simp [PyData.canLayAll0,i,j]
theorem RdW.lay0 {v:Value} {d:D} (r:RdW W h v d):d.canLay0=true:=zNN.1 r
theorem zAK.lay0 {vs:List Value} {ds:List D} (r:zAK W h vs ds):PyData.canLayAll0 ds=true:=zNN.2 r
theorem zJs (hk: ∀a o,(∃vs n,o.data= .seq vs n)→¬W a→h.get? a=some o→h'.get? a=some o∧¬W' a):(∀{v d},RdW W h v d→RdW W' h' v d)∧∀{vs ds},zAK W h vs ds→zAK W' h' vs ds:=
 zLg .none .bool .int .str (fun g n V i=>(hk _ _ ⟨_,_,rfl⟩ n g).elim fun g n=> .list g n i) (fun g n V i=>(hk _ _ ⟨_,_,rfl⟩ n g).elim fun g n=> .tuple g n i) .nil .cons
theorem RdW.step (hk: ∀a o,¬W a→h.get? a=some o→h'.get? a=some o) (hw: ∀a o,h.get? a=some o→W' a→W a) {v:Value} {d:D} (r:RdW W h v d):RdW W' h' v d:=
 (zJs fun a o V n e=>⟨hk a o n e,fun x=>n (hw a o e x)⟩).1 r
theorem zAK.step (hk: ∀a o,¬W a→h.get? a=some o→h'.get? a=some o) (hw: ∀a o,h.get? a=some o→W' a→W a) {vs:List Value} {ds:List D} (r:zAK W h vs ds):zAK W' h' vs ds:=
 (zJs fun a o V n e=>⟨hk a o n e,fun x=>n (hw a o e x)⟩).2 r
end
section
variable {W W':Addr→Prop} {h h':Heap} {v:Value} {d:D} {vs ws:List Value} {ds es:List D}
theorem RdW.keep (x:RdW W h v d) (hk: ∀a o,h.get? a=some o→h'.get? a=some o):RdW W h' v d:=x.step (fun a o V=>hk a o) fun V V V e=>e
theorem zAK.keep (x:zAK W h vs ds) (hk: ∀a o,h.get? a=some o→h'.get? a=some o):zAK W h' vs ds:=x.step (fun a o V=>hk a o) fun V V V e=>e
theorem RdW.keeps {s s':Shared} (x:RdW W s.heap v d) (hk:Keeps s s'):RdW W s'.heap v d:=by
 obtain ⟨h',tk,rfl,hk⟩:=hk; exact x.keep hk
theorem zAK.keeps {s s':Shared} (x:zAK W s.heap vs ds) (hk:Keeps s s'):zAK W s'.heap vs ds:=by
 obtain ⟨h',tk,rfl,hk⟩:=hk; exact x.keep hk
theorem Keeps.refl (s:Shared):Keeps s s:=⟨s.heap,s.toks,rfl,fun V V e=>e⟩
theorem Keeps.trans {s s' s'':Shared} (x:Keeps s s') (y:Keeps s' s''):Keeps s s'':=by
 obtain ⟨h,t,rfl,k⟩:=x; obtain ⟨h',t',rfl,k'⟩:=y; exact ⟨h',t',rfl,fun a o e=>k' a o (k a o e)⟩
theorem Keeps.toks (s:Shared) (t:Nat):Keeps s {s with toks:=t}:=⟨s.heap,t,rfl,fun V V e=>e⟩
theorem Keeps.push (s:Shared) (o:Obj):Keeps s {s with heap:=s.heap.push o}:=⟨s.heap.push o,s.toks,rfl,fun V V e=>Heap.get?_push_of_some o e⟩
theorem Keeps.get {s s':Shared} (x:Keeps s s') {a:Addr} {o:Obj} (e:s.heap.get? a=some o):s'.heap.get? a=some o:=by
 obtain ⟨h,t,rfl,k⟩:=x; exact k a o e
theorem zAK.length (x:zAK W h vs ds):vs.length=ds.length:=by
 induction ds generalizing vs with
 | nil=>cases x; rfl
 | cons d ds ih=>cases x with | cons a b=>simp [ih b]
theorem zAK.append (x:zAK W h vs ds) (y:zAK W h ws es):zAK W h (vs++ws) (ds++es):=by
 induction ds generalizing vs with
 | nil=>cases x; simpa using y
 | cons d ds ih=>cases x with | cons a b=>simpa using zAK.cons a (ih b)
theorem zAK.get (x:zAK W h vs ds) {i:Nat} (e:ds[i]? =some d): ∃v,vs[i]? =some v∧RdW W h v d:=by
 induction ds generalizing vs i with
 | nil=>simp at e
 | cons d' ds ih=>
  cases x with
  | cons a b=>
   induction i with
   | zero=>simp at e; subst e; exact ⟨_,by simp,a⟩
   | succ i=>simp at e; obtain ⟨v,e1,r⟩:=ih b e; exact ⟨v,by simpa using e1,r⟩
theorem zAK.getV (x:zAK W h vs ds) {i:Nat} (e:vs[i]? =some v): ∃d,ds[i]? =some d∧RdW W h v d:=by
 have hi:i < ds.length:=by rw [←x.length]; exact (List.getElem?_eq_some_iff.mp e).1
 obtain ⟨v',e',r⟩:=x.get (List.getElem?_eq_getElem hi)
 rw [e] at e'; cases e'
 exact ⟨_,List.getElem?_eq_getElem hi,r⟩
theorem zAK.reverse (x:zAK W h vs ds):zAK W h vs.reverse ds.reverse:=by
 induction ds generalizing vs with
 | nil=>cases x; exact .nil
 | cons d ds ih=>cases x with | cons a b=>simpa using (ih b).append (.cons a .nil)
theorem zAK.take (x:zAK W h vs ds) (n:Nat):zAK W h (vs.take n) (ds.take n):=by
 induction n generalizing vs ds with
 | zero=>simpa using zAK.nil
 | succ n ih=>cases x with | nil=>simpa using zAK.nil | cons a b=>simpa using zAK.cons a (ih b)
theorem zAK.drop (x:zAK W h vs ds) (n:Nat):zAK W h (vs.drop n) (ds.drop n):=by
 induction n generalizing vs ds with
 | zero=>simpa using x
 | succ n ih=>cases x with | nil=>simpa using zAK.nil | cons a b=>simpa using ih b
theorem zAK.set (x:zAK W h vs ds) (r:RdW W h v d) (n:Nat):zAK W h (vs.set n v) (ds.set n d):=by
 induction n generalizing vs ds with
 | zero=>cases x with | nil=>simpa using zAK.nil | cons a b=>simpa using zAK.cons r b
 | succ n ih=>cases x with | nil=>simpa using zAK.nil | cons a b=>simpa using zAK.cons a (ih b)
theorem RdW.listInv {xs:List D} (x:RdW W h v (.list xs)): ∃a vs n,v= .ref a∧h.get? a=some (zBz vs n)∧¬W a∧zAK W h vs.toList xs:=by
 cases x with | list h1 h4 h5=>exact ⟨_,_,_,rfl,h1,h4,h5⟩
theorem RdW.tupInv {xs:List D} (x:RdW W h v (.tuple xs)): ∃a vs n,v= .ref a∧h.get? a=some (zPH vs n)∧¬W a∧zAK W h vs.toList xs:=by
 cases x with | tuple h1 h4 h5=>exact ⟨_,_,_,rfl,h1,h4,h5⟩
theorem zAL {a:Addr} {vs:Array Value} {n:Nat} (e:h.get? a=some (zBz vs n)):h.IsList a vs:=⟨_,e,rfl,n,rfl⟩
theorem zAt {a:Addr} {vs:Array Value} {n:Nat} (e:h.get? a=some (zPH vs n)):h.IsTuple a vs:=⟨_,e,rfl,n,rfl⟩
theorem RdW.intInv {i:Int} (x:RdW W h v (.int i)): ∃t,v= .int i t:=by cases x; exact ⟨_,rfl⟩
theorem RdW.boolInv {b:Bool} (x:RdW W h v (.bool b)):v= .bool b:=by cases x; rfl
theorem RdW.noneInv (x:RdW W h v .none):v= .none:=by cases x; rfl
theorem RdW.strInv {y:Str} (x:RdW W h v (.str y)): ∃t,v= .str y t:=by cases x; exact ⟨_,rfl⟩
theorem RdW.noDict {kvs:List (D×D)} (x:RdW W h v (.dict kvs)):False:=nomatch x
end
def zAG (A:Around) (h:Heap):Prop:=A.handled=none∨∃a o vs,A.handled=some (.ref a)∧h.get? a=some o∧o.data= .fields vs∧vs[2]? =some .none
theorem zAG.keep {A:Around} {h h':Heap} (x:zAG A h) (hk: ∀a o,h.get? a=some o→h'.get? a=some o):zAG A h':=
 x.imp id fun ⟨a,o,vs,e,r,q⟩=>⟨a,o,vs,e,hk _ _ r,q⟩
section
variable {prog:Program} {w:World} {A:Around} {E:Value→Shared→Prop} {s:Shared}
theorem zFo:entryFor table "proto.unchain"=some Builtin.«proto.unchain» :=
 entryFor_of_tree (by kernel_rfl)
theorem zDt {α:Type} {Q:α→Shared→Prop} {e:Addr} {o:Obj} {vs:Array Value} (hh:zAG A s.heap) (he:s.heap.get? e=some o) (hd:o.data= .fields vs) (hsz:2 < vs.size)
  (hne: ∀a,A.handled=some (.ref a)→a≠e)
  (hE: ∀h' o',Heap.SameBut e s.heap h'→h'.get? e=some o'→o'.cls=o.cls→E (.ref e) {s with heap:=h'}):
  wpAny (model prog w) A (raiseNew (.ref e):Sem α) Q E s:=by
 unfold raiseNew
 refine wpAny_bind (wpAny_handled ?_)
 rcases hh with hn | ⟨a,oa,va,ha,hga,hda,hva⟩
 ·rw [hn]
  exact wpAny_bind (wpAny_pure (wpAny_throw (hE s.heap o (.refl ..) he rfl)))
 ·rw [ha]
  have hae:=hne a ha
  dsimp only
  rw [if_pos (show ((Value.ref a != Value.ref e)=true) from by
   rw [bne_iff_ne]; intro x; injection x with x; exact hae x)]
  refine wpAny_bind (wpAny_holding (wpAny_runValue (codeAny_builtin zFo ?_)))
  show wpAny _ _ (field (.ref a) 2 >>= _) _ _ s
  refine wpAny_bind (wpAny_field hga hda hva ?_)
  refine wpAny_pure ?_
  unfold updateField
  refine wpAny_bind (wpAny_bind (wpAny_load he ?_))
  rw [hd]
  dsimp only
  rw [if_pos hsz]
  refine wpAny_update he (wpAny_throw ?_)
  exact hE _ _ (Heap.SameBut.update ..) (Heap.get?_update_self _ he (Obj.isFreed_of_fields (Obj.data_mapFields hd _))) (Obj.cls_mapFields ..)
theorem zAS {α:Type} {Q:α→Shared→Prop} (hh:zAG A s.heap)
  (hE: ∀e h',(∀a o,s.heap.get? a=some o→h'.get? a=some o)→(∃o,h'.get? e=some o∧o.cls= .type "StopIteration")→E (.ref e) {s with heap:=h'}):
  wpAny (model prog w) A (newExc (.type "StopIteration") [] >>= fun e=>(raiseNew e:Sem α)) Q E s:=by
 have hlt: ∀a,A.handled=some (.ref a)→a < s.heap.objs.size:=by
  rcases hh with hn | ⟨b,o,vs,e,r,_⟩
  ·intro a ha; rw [hn] at ha; cases ha
  ·intro a ha; rw [e] at ha; cases ha; exact Heap.lt_size r
 refine wpAny_bind ?_
 simp only [newExc,newTuple]
 refine wpAny_bind (wpAny_newObj_type ?_ (by size_fits))
 refine wpAny_bind (m:=firstArgMember _ _) (wpAny_of_eq (a:=Value.none) (by first | rfl | (simp only [firstArgMember]; rfl)) ?_)
 refine wpAny_newObj_type ?_ (by size_fits)
 have hk: ∀(o1 o2:Obj) a o,s.heap.get? a=some o→((s.heap.push o1).push o2).get? a=some o:=fun o1 o2 a o e=>Heap.get?_push_of_some _ (Heap.get?_push_of_some _ e)
 refine zDt (hh.keep (hk _ _)) (Heap.get?_push_size _ rfl) rfl (by rw [Array.size_append]; exact Nat.lt_of_lt_of_le (by decide:2 < 6) (Nat.le_add_right _ _)) (fun a ha he=> ?_) fun h' o' hs ho hc=> ?_
 ·have:=hlt a ha
  rw [he] at this
  exact absurd this (by show ¬(s.heap.push _).objs.size < _; rw [Heap.size_push]; lia)
 ·refine hE _ h' (fun a o e=> ?_) ⟨o',ho,hc⟩
  refine (hs.2 a ?_).trans (hk _ _ a o e)
  have:=Heap.lt_size e
  intro x
  rw [x] at this
  exact absurd this (by show ¬(s.heap.push _).objs.size < _; rw [Heap.size_push]; lia)
end
noncomputable def zAQ (A:Around):List Addr:=match A.handled with | some (.ref a)=>[a] | _=>[]
theorem zAG.at {A:Around} {h h':Heap} (x:zAG A h) (hk: ∀b∈zAQ A,∀o,h.get? b=some o→h'.get? b=some o):zAG A h':=by
 rcases x with x | ⟨a,o,vs,e,g,d,n⟩
 ·exact .inl x
 ·exact .inr ⟨a,o,vs,e,hk a (by unfold zAQ; rw [e]; exact List.mem_singleton.mpr rfl) o g,d,n⟩
theorem zAG.live {A:Around} {h:Heap} (x:zAG A h): ∀b∈zAQ A,b < h.objs.size:=by
 intro b hb
 rcases x with x | ⟨a,o,vs,e,g,d,n⟩
 ·unfold zAQ at hb; rw [x] at hb; cases hb
 ·unfold zAQ at hb; rw [e] at hb
  have:b=a:=by simpa using hb
  subst this; exact Heap.lt_size g
end
def zAC (O:Addr→Prop) (s s':Shared):Prop:=∃h' tk,s'={s with heap:=h',toks:=tk}∧∀a o,¬O a→s.heap.get? a=some o→h'.get? a=some o
section
variable {O O':Addr→Prop} {s s' s'':Shared}
theorem zAC.refl (s:Shared):zAC O s s:=⟨s.heap,s.toks,rfl,fun V V V e=>e⟩
theorem zAC.of (x:Keeps s s'):zAC O s s':=let ⟨h,t,e,k⟩:=x; ⟨h,t,e,fun a o V=>k a o⟩
theorem zAC.get (x:zAC O s s') {a:Addr} {o:Obj} (ha: ¬O a) (e:s.heap.get? a=some o):s'.heap.get? a=some o:=by
 obtain ⟨h,t,rfl,k⟩:=x; exact k a o ha e
theorem zAC.trans (x:zAC O s s') (y:zAC O' s' s'') (hO: ∀a o,s.heap.get? a=some o→O' a→O a):zAC O s s'':=by
 obtain ⟨h,t,rfl,k⟩:=x; obtain ⟨h',t',rfl,k'⟩:=y
 exact ⟨h',t',rfl,fun a o na e=>k' a o (fun x=>na (hO a o e x)) (k a o na e)⟩
theorem zAC.mono (x:zAC O s s') (hO: ∀a o,s.heap.get? a=some o→O a→O' a):zAC O' s s':=by
 obtain ⟨h,t,rfl,k⟩:=x; exact ⟨h,t,rfl,fun a o na e=>k a o (fun x=>na (hO a o e x)) e⟩
theorem zAC.same {a:Addr} {h':Heap} {t:Nat} (hs:Heap.SameBut a s.heap h') (ha:O a):zAC O s {s with heap:=h',toks:=t}:=
 ⟨h',t,rfl,fun b o nb e=>(hs.2 b (fun x=>nb (x▸ha))).trans e⟩
theorem zAC.ext {a:Addr} {h':Heap} {t:Nat} (hs:Heap.ExtBut a s.heap h') (ha:O a):zAC O s {s with heap:=h',toks:=t}:=
 ⟨h',t,rfl,fun b o nb e=>hs b o (fun x=>nb (x▸ha)) e⟩
theorem zAC.keeps (x:zAC O s s') (hO: ∀a o,s.heap.get? a=some o→¬O a):Keeps s s':=by
 obtain ⟨h,t,rfl,k⟩:=x; exact ⟨h,t,rfl,fun a o e=>k a o (hO a o e) e⟩
end
theorem RdW.keepBut {O P:Addr→Prop} {s s':Shared} {v:Value} {d:D} (x:RdW P s.heap v d) (k:zAC O s s') (hO: ∀a,O a→P a):RdW P s'.heap v d:=
 x.step (fun a V na e=>k.get (fun y=>na (hO a y)) e) fun V V V e=>e
theorem zAK.keepBut {O P:Addr→Prop} {s s':Shared} {v:List Value} {d:List D} (x:zAK P s.heap v d) (k:zAC O s s') (hO: ∀a,O a→P a):zAK P s'.heap v d:=
 x.step (fun a V na e=>k.get (fun y=>na (hO a y)) e) fun V V V e=>e
noncomputable def turnOf (target:Expr) (it:Value):Sem (Option Value):=do
 match←pyNext it with
 | none=>pure none
 | some v=>do letOwnedTupleGo target it v; pure (some v)
structure Wk (prog:Program) (w:World) (A:Around) (tg:Expr) (I:Addr) (wr rd:Addr→Prop) (ds:List D) (St:Nat→(Addr→Prop)→Heap→Prop):Prop where
 item: ∀(i:Nat) (d:D) (P:Addr→Prop) (s:Shared) (Q:Value→Shared→Prop) (E:Value→Shared→Prop),ds[i]? =some d→(∀a,P a→∃o,s.heap.get? a=some o)→St i P s.heap→
  (∀v s₂,zAC wr s s₂→RdW P s₂.heap v d→St (i + 1) P s₂.heap→Q v s₂)→
  wpAny (model prog w) A (pyNext (.ref I)) (fun r s₁=>match r with | none=>False | some v=>wpAny (model prog w) A (letOwnedTupleGo tg (.ref I) v) (fun V s₂=>Q v s₂) E s₁) E s
 done: ∀(P:Addr→Prop) (s:Shared) (Q:Option Value→Shared→Prop) (E:Value→Shared→Prop),zAG A s.heap→St ds.length P s.heap→(∀s₂,zAC wr s s₂→Q none s₂)→
  wpAny (model prog w) A (pyNext (.ref I)) Q E s
 self: ∀(i:Nat) (P:Addr→Prop) (s:Shared) (Q:Value→Shared→Prop) (E:Value→Shared→Prop),St i P s.heap→Q (.ref I) s→wpAny (model prog w) A (pyIter (.ref I)) Q E s
 frame: ∀(i:Nat) (P P':Addr→Prop) (h h':Heap) (O:Addr→Prop),(∀a,O a→P a)→(∀a,O a→¬wr a)→(∀a,O a→¬rd a)→(∀a,wr a→P' a)→(∀a o,h.get? a=some o→P' a→P a)→St i P h→
  (∀a o,¬O a→h.get? a=some o→h'.get? a=some o)→St i P' h'
 live: ∀(i:Nat) (P:Addr→Prop) (h:Heap),St i P h→∀a,wr a→P a∧∃o,h.get? a=some o
section
variable {prog:Program} {w:World} {A:Around} {E:Value→Shared→Prop} {s:Shared}
theorem zAp {tg:Expr} {I:Addr} {v:Value} {o:Obj} {T:String} {Q:Unit→Shared→Prop} (ho:s.heap.get? I=some o) (hc:o.cls= .type T)
  (hT:["enumerate","zip","dict_itemiterator","dict_reverseitemiterator","odict_iterator","itertools.zip_longest","itertools.pairwise"].contains T=false) (h:Q () s):
  wpAny (model prog w) A (letOwnedTupleGo tg (.ref I) v) Q E s:=by
 have key:wpAny (model prog w) A (do
   let (.ref r, .ref a):=((Value.ref I,v):Value×Value) | return
   let o←load r
   match o.cls,o.data with
   | .type n, .fields vs=>
    if ["enumerate","zip","dict_itemiterator","dict_reverseitemiterator","odict_iterator","itertools.zip_longest","itertools.pairwise"].contains n&&vs[0]? ==some (rawInt a) then
     rule "for.unpacks-the-owned-tuple"
     updateField r 0 .none
   | _,_=>pure ()) Q E s:=by
  induction v with
  | ref a=>
   dsimp only
   refine wpAny_bind (wpAny_load ho ?_)
   rw [hc]
   cases hd:o.data with
   | fields vs=>simp only [hT,Bool.false_and,Bool.false_eq_true,if_false]; exact wpAny_pure h
   | _=>exact wpAny_pure h
  | _=>exact wpAny_pure h
 cases tg <;> first | exact key | exact wpAny_pure h
theorem zAG.but {A B:Around} {h h':Heap} {it:Addr} {o:Obj} {vs:Array Value} (x:zAG A h) (hB:B.handled=A.handled) (ho:h.get? it=some o) (hd:o.data= .fields vs) (h2:vs[2]?≠some .none) (hs:Heap.SameBut it h h'):zAG B h':=by
 rcases x with x | ⟨a,oa,va,e,g,d,n⟩
 ·exact .inl (hB.trans x)
 ·refine .inr ⟨a,oa,va,hB.trans e,(hs.2 a ?_).trans g,d,n⟩
  rintro rfl
  rw [ho] at g; cases g
  rw [hd] at d; cases d
  exact h2 n
theorem zBY {it l:Addr} {i:Nat} {items:Array Value} {Q:Option Value→Shared→Prop} (hh:zAG A s.heap)
  (hit:s.heap.IsListIter it l i) (hl:s.heap.IsList l items) (hx:items[i]? =none)
  (hQ: ∀h',Heap.ExtBut it s.heap h'→Q none {s with heap:=h'}):wpAny (model prog w) A (pyNext (.ref it)) Q E s:=by
 obtain ⟨o,ho,hc,hd⟩:=id hit
 obtain ⟨ol,hol,_,nl,hdl⟩:=hl
 unfold pyNext
 refine wpAny_bind (wpAny_attempt (wpAny_callSpecial?_slot (name:=Str.ofString "__next__") hit.typeIs slot_listiter_next
  (wpAny_call_entry slot_listiter_next hit.typeIs entry_listiter_next ?_ (args_listiter_next _))))
 show wpAny _ _ (field (.ref it) 0 >>= _) _ _ s
 refine wpAny_bind (wpAny_field ho hd (x:= .ref l) rfl ?_)
 show wpAny _ _ (if (Value.ref l==Value.none)=true then _ else _) _ _ s
 rw [if_neg (show ¬((Value.ref l==Value.none)=true) from Bool.false_ne_true)]
 show wpAny _ _ (field (.ref it) 1 >>= _) _ _ s
 refine wpAny_bind (wpAny_field ho hd (x:= .int i 0) rfl ?_)
 show wpAny _ _ (seqItems? (.ref l) >>= _) _ _ s
 refine wpAny_bind (wpAny_seqItems hol hdl ?_)
 simp only [Int.toNat_natCast,hx]
 refine wpAny_bind (wpAny_rule (wpAny_bind (wpAny_setField ho hd (by simp) ?_)))
 refine zAS (hh.but rfl ho hd (by simp) (Heap.SameBut.update ..)) fun e h' hk hx=> ?_
 refine wpAny_bind (wpAny_isInstance (T:="StopIteration") (b:=true) hx isSubtype_stop ?_)
 exact wpAny_pure (hQ _ fun b o hb x=>hk b o ((Heap.SameBut.update ..).extBut b o hb x))
theorem zAo {it l:Addr} {i:Nat} {items:Array Value} {Q:Option Value→Shared→Prop} (hh:zAG A s.heap)
  (hit:s.heap.IsTupleIter it l i) (hl:s.heap.IsTuple l items) (hx:items[i]? =none)
  (hQ: ∀h',Heap.ExtBut it s.heap h'→Q none {s with heap:=h'}):wpAny (model prog w) A (pyNext (.ref it)) Q E s:=by
 obtain ⟨o,ho,hc,hd⟩:=id hit
 obtain ⟨ol,hol,_,nl,hdl⟩:=hl
 unfold pyNext
 refine wpAny_bind (wpAny_attempt (wpAny_callSpecial?_slot (name:=Str.ofString "__next__") hit.typeIs F.slot_tuple_iterator_next
  (wpAny_call_entry F.slot_tuple_iterator_next hit.typeIs F.entry_tuple_iterator_next ?_ (F.args_tuple_iterator_next_1 _))))
 show wpAny _ _ (field (.ref it) 0 >>= _) _ _ s
 refine wpAny_bind (wpAny_field ho hd (x:= .ref l) rfl ?_)
 show wpAny _ _ (if (Value.ref l==Value.none)=true then _ else _) _ _ s
 rw [if_neg (show ¬((Value.ref l==Value.none)=true) from Bool.false_ne_true)]
 show wpAny _ _ (field (.ref it) 1 >>= _) _ _ s
 refine wpAny_bind (wpAny_field ho hd (x:= .int i 0) rfl ?_)
 show wpAny _ _ (seqItems? (.ref l) >>= _) _ _ s
 refine wpAny_bind (wpAny_seqItems hol hdl ?_)
 simp only [Int.toNat_natCast,hx]
 refine wpAny_bind (wpAny_rule (wpAny_bind (wpAny_setField ho hd (by simp) ?_)))
 refine zAS (hh.but rfl ho hd (by simp) (Heap.SameBut.update ..)) fun e h' hk hx=> ?_
 refine wpAny_bind (wpAny_isInstance (T:="StopIteration") (b:=true) hx isSubtype_stop ?_)
 exact wpAny_pure (hQ _ fun b o hb x=>hk b o ((Heap.SameBut.update ..).extBut b o hb x))
theorem zCr {it:Addr} {x left step:Int} {Q:Option Value→Shared→Prop} (hh:zAG A s.heap) (hit:IsRangeIter s.heap it x left step) (hleft:left≤0)
  (hQ: ∀h',Heap.ExtBut it s.heap h'→Q none {s with heap:=h'}):wpAny (model prog w) A (pyNext (.ref it)) Q E s:=by
 have hT:s.TypeIs (.ref it) "range_iterator":=⟨_,hit,rfl⟩
 unfold pyNext
 refine wpAny_bind (wpAny_attempt (wpAny_callSpecial?_slot (name:=Str.ofString "__next__") hT F.slot_range_iterator_next
  (wpAny_call_entry F.slot_range_iterator_next hT F.entry_range_iterator_next ?_ (F.args_range_iterator_next_1 _))))
 show wpAny _ _ (field (.ref it) 0 >>= _) _ _ s
 refine wpAny_bind (wpAny_field hit rfl (x:=rawInt x) rfl ?_)
 show wpAny _ _ (field (.ref it) 1 >>= _) _ _ s
 refine wpAny_bind (wpAny_field hit rfl (x:=rawInt left) rfl ?_)
 show wpAny _ _ (field (.ref it) 2 >>= _) _ _ s
 refine wpAny_bind (wpAny_field hit rfl (x:=rawInt step) rfl ?_)
 show wpAny _ _ (if left≤0 then _ else _) _ _ s
 rw [if_pos hleft]
 refine wpAny_bind (wpAny_rule ?_)
 refine wpAny_bind ?_
 refine zAS (hh.but rfl hit rfl (by simp [rawInt]) (Heap.SameBut.refl ..)) fun e h' hk hx=> ?_
 refine wpAny_bind (wpAny_isInstance (T:="StopIteration") (b:=true) hx isSubtype_stop ?_)
 exact wpAny_pure (hQ _ fun b o V x=>hk b o x)
end
section
variable {prog:Program} {w:World} {A:Around} {tg:Expr} {ds:List D}
def zSp (I l:Addr) (vs:Array Value) (ds:List D) (i:Nat) (P:Addr→Prop) (h:Heap):Prop:=P I∧¬P l∧h.IsListIter I l i∧h.IsList l vs∧zAK P h vs.toList ds
theorem Wk.list {I l:Addr} {vs:Array Value}:Wk prog w A tg I (· =I) (fun V=>False) ds (zSp I l vs ds) where
 item:=fun i d P s Q E hd _ ⟨hI,hl,h1,h2,h3⟩ hQ=>by
  have hne:l≠I:=fun e=>hl (e▸hI)
  obtain ⟨v,e,r⟩:=h3.get hd
  refine wpAny_pyNext_list_item h1 h2 (x:=v) (by simpa using e) fun h' hit' hs'=> ?_
  obtain ⟨o,ho,hc,_⟩:=id hit'
  have kb:zAC (· =I) s {s with heap:=h'}:=zAC.same hs' rfl
  have hP: ∀a,a=I→P a:=fun a e=>e▸hI
  exact zAp ho hc (by decide +kernel) (hQ v _ kb (r.keepBut kb hP) ⟨hI,hl,hit',h2.extBut hs'.extBut hne,h3.keepBut kb hP⟩)
 done:=fun P s Q E hh ⟨_,_,h1,h2,h3⟩ hQ=>by
  refine zBY hh h1 h2 ?_ fun h' he'=>hQ _ (zAC.ext he' rfl)
  have:=h3.length
  rw [←this]; simp
 self:=fun _ _ _ _ _ ⟨_,_,h1,_⟩ hQ=>wpAny_pyIter_listiter h1 hQ
 frame:=fun i P P' h h' O hOP hO _ hw hP ⟨_,hl,h1,h2,h3⟩ hk=>⟨hw _ rfl,fun x=>hl (hP _ _ h2.choose_spec.1 x),h1.at fun o e=>hk _ o (fun x=>hO _ x rfl) e,h2.at fun o e=>hk _ o (fun x=>hl (hOP _ x)) e,
  h3.step (fun a o na e=>hk a o (fun x=>na (hOP _ x)) e) hP⟩
 live:=fun i P h ⟨hI,_,⟨o,ho,_⟩,_⟩ a ha=>by subst ha; exact ⟨hI,o,ho⟩
theorem Heap.IsTuple.at {h h':Heap} {a items} (x:h.IsTuple a items) (e: ∀o,h.get? a=some o→h'.get? a=some o):h'.IsTuple a items:=let ⟨o,ho,r⟩:=x; ⟨o,e _ ho,r⟩
theorem Heap.IsTupleIter.at {h h':Heap} {a l i} (x:h.IsTupleIter a l i) (e: ∀o,h.get? a=some o→h'.get? a=some o):h'.IsTupleIter a l i:=let ⟨o,ho,r⟩:=x; ⟨o,e _ ho,r⟩
theorem zBJ {E:Value→Shared→Prop} {s:Shared} {it l:Addr} {i:Nat} {Q:Value→Shared→Prop} (hit:s.heap.IsTupleIter it l i) (h:Q (.ref it) s):
  wpAny (model prog w) A (pyIter (.ref it)) Q E s:=by
 refine wpAny_pyIter_slot hit.typeIs F.slot_tuple_iterator_iter (wpAny_call_entry F.slot_tuple_iterator_iter hit.typeIs F.entry_tuple_iterator_iter ?_ (F.args_tuple_iterator_iter_1 _))
 show wpAny _ _ (ret (.ref it)) _ _ s
 exact wpAny_pure ⟨_,rfl,"tuple_iterator",_,hit.typeIs,F.slot_tuple_iterator_next.lookup,h⟩
def StTup (I l:Addr) (vs:Array Value) (ds:List D) (i:Nat) (P:Addr→Prop) (h:Heap):Prop:=P I∧¬P l∧h.IsTupleIter I l i∧h.IsTuple l vs∧zAK P h vs.toList ds
theorem Wk.tup {I l:Addr} {vs:Array Value}:Wk prog w A tg I (· =I) (fun V=>False) ds (StTup I l vs ds) where
 item:=fun i d P s Q E hd _ ⟨hI,hl,h1,h2,h3⟩ hQ=>by
  have hne:l≠I:=fun e=>hl (e▸hI)
  obtain ⟨v,e,r⟩:=h3.get hd
  refine wpAny_pyNext_tuple_item h1 h2 (x:=v) (by simpa using e) fun h' hit' hs'=> ?_
  obtain ⟨o,ho,hc,_⟩:=id hit'
  have kb:zAC (· =I) s {s with heap:=h'}:=zAC.same hs' rfl
  have hP: ∀a,a=I→P a:=fun a e=>e▸hI
  exact zAp ho hc (by decide +kernel) (hQ v _ kb (r.keepBut kb hP) ⟨hI,hl,hit',h2.extBut hs'.extBut hne,h3.keepBut kb hP⟩)
 done:=fun P s Q E hh ⟨_,_,h1,h2,h3⟩ hQ=>by
  refine zAo hh h1 h2 ?_ fun h' he'=>hQ _ (zAC.ext he' rfl)
  have:=h3.length
  rw [←this]; simp
 self:=fun _ _ _ _ _ ⟨_,_,h1,_⟩ hQ=>zBJ h1 hQ
 frame:=fun i P P' h h' O hOP hO _ hw hP ⟨_,hl,h1,h2,h3⟩ hk=>⟨hw _ rfl,fun x=>hl (hP _ _ h2.choose_spec.1 x),Heap.IsTupleIter.at h1 fun o e=>hk _ o (fun x=>hO _ x rfl) e,
  Heap.IsTuple.at h2 fun o e=>hk _ o (fun x=>hl (hOP _ x)) e,h3.step (fun a o na e=>hk a o (fun x=>na (hOP _ x)) e) hP⟩
 live:=fun i P h ⟨hI,_,⟨o,ho,_⟩,_⟩ a ha=>by subst ha; exact ⟨hI,o,ho⟩
theorem zBv {E:Value→Shared→Prop} {s:Shared} {it:Addr} {x y z:Int} {Q:Value→Shared→Prop} (hit:IsRangeIter s.heap it x y z) (h:Q (.ref it) s):
  wpAny (model prog w) A (pyIter (.ref it)) Q E s:=by
 have hT:s.TypeIs (.ref it) "range_iterator":=⟨_,hit,rfl⟩
 refine wpAny_pyIter_slot hT F.slot_range_iterator_iter (wpAny_call_entry F.slot_range_iterator_iter hT F.entry_range_iterator_iter ?_ (F.args_range_iterator_iter_1 _))
 show wpAny _ _ (ret (.ref it)) _ _ s
 exact wpAny_pure ⟨_,rfl,"range_iterator",_,hT,F.slot_range_iterator_next.lookup,h⟩
def zPE (I:Addr) (a c:Int) (n:Nat) (i:Nat) (P:Addr→Prop) (h:Heap):Prop:=P I∧IsRangeIter h I (a + i * c) ((n:Int) - i) c
theorem Wk.range {I:Addr} {a c:Int} (hds: ∀(i:Nat) d,ds[i]? =some d→d= .int (a + i * c)):Wk prog w A tg I (· =I) (fun V=>False) ds (zPE I a c ds.length) where
 item:=fun i d P s Q E hd _ ⟨hI,st⟩ hQ=>by
  have hi:i < ds.length:=(List.getElem?_eq_some_iff.mp hd).1
  refine wpAny_pyNext_range_item st (by lia) fun h' hit' hs'=> ?_
  have kb:zAC (· =I) s {s with heap:=h',toks:=s.toks + 1}:=zAC.same hs' rfl
  refine zAp hit' rfl (by decide +kernel) (hQ _ _ kb ?_ ⟨hI, ?_⟩)
  ·rw [hds i d hd]; exact .int _ _
  ·show h'.get? I=_
   have e1:a + ((i + 1:Nat):Int) * c=a + (i:Int) * c + c:=by rw [Int.natCast_add,Int.add_mul]; simp [Int.add_assoc]
   have e2:(ds.length:Int) - ((i + 1:Nat):Int)=(ds.length:Int) - i - 1:=by lia
   rw [e1,e2]; exact hit'
 done:=fun P s Q E hh ⟨_,st⟩ hQ=>zCr hh st (by lia) fun h' he'=>hQ _ (zAC.ext he' rfl)
 self:=fun _ _ _ _ _ ⟨_,st⟩ hQ=>zBv st hQ
 frame:=fun i P P' h h' O _ hO _ hw _ ⟨_,st⟩ hk=>⟨hw _ rfl,hk _ _ (fun x=>hO _ x rfl) st⟩
 live:=fun i P h ⟨hI,st⟩ a ha=>by subst ha; exact ⟨hI,_,st⟩
theorem zDu {E:Value→Shared→Prop} {s:Shared} {elts:List Expr} {k:Nat} {pos:Pos} {e it n:Addr} {i:Int} {x:Value} {Q:Unit→Shared→Prop} (he:IsEnumOut s.heap e it i x n)
  (hQ: ∀h',IsEnum h' e it i x→Heap.SameBut e s.heap h'→Q () {s with heap:=h'}):wpAny (model prog w) A (letOwnedTupleGo (.Tuple elts k pos) (.ref e) (.ref n)) Q E s:=by
 unfold letOwnedTupleGo
 refine wpAny_bind (wpAny_load he ?_)
 show wpAny _ _ (if (["enumerate","zip","dict_itemiterator","dict_reverseitemiterator","odict_iterator","itertools.zip_longest","itertools.pairwise"].contains "enumerate"&&
   (some (rawInt n)==some (rawInt n)))=true then _ else _) _ _ _
 rw [if_pos (by simp)]
 exact wpAny_bind (wpAny_rule (wpAny_setField_rec he (by simp) fun h' hg hs=>hQ h' hg hs))
def zNi (I it l:Addr) (vs:Array Value) (xs:List D) (i:Nat) (P:Addr→Prop) (h:Heap):Prop:=
 P I∧P it∧I≠it∧¬P l∧(∃old,IsEnum h I it i old)∧h.IsListIter it l i∧h.IsList l vs∧zAK P h vs.toList xs
theorem zGp: ∀(xs:List D) (k i:Nat),(zDl k xs)[i]? =xs[i]?.map fun d=>PyData.tuple [.int ((k + i:Nat):Int),d]
 | [],k,i=>by simp [zDl]
 | d :: xs,k,0=>by simp [zDl]
 | d :: xs,k,i + 1=>by
  have e:zDl k (d :: xs)= .tuple [.int (k:Nat),d] :: zDl (k + 1) xs:=by
   show PyData.tuple [.int (.ofNat k),d] :: zDA (Nat.succ k) _=_
   rfl
  rw [e]
  have:=zGp xs (k + 1) i
  simp only [List.getElem?_cons_succ,this]
  congr 1; funext d; congr 3; lia
theorem zDe: ∀(xs:List D) (k:Nat),(zDl k xs).length=xs.length
 | [],k=>rfl
 | d :: xs,k=>by
  have e:zDl k (d :: xs)= .tuple [.int (k:Nat),d] :: zDl (k + 1) xs:=rfl
  rw [e,List.length_cons,zDe xs (k + 1)]; rfl
theorem zDJ {E:Value→Shared→Prop} {s:Shared} {e it l:Addr} {i:Nat} {items:Array Value} {old:Value} {Q:Option Value→Shared→Prop} (hh:zAG A s.heap)
  (he:IsEnum s.heap e it i old) (hit:s.heap.IsListIter it l i) (hl:s.heap.IsList l items) (hx:items[i]? =none)
  (hQ: ∀h',Heap.ExtBut it s.heap h'→Q none {s with heap:=h'}):wpAny (model prog w) A (pyNext (.ref e)) Q E s:=by
 have hT:s.TypeIs (.ref e) "enumerate":=⟨_,he,rfl⟩
 unfold pyNext
 refine wpAny_bind (wpAny_attempt (wpAny_callSpecial?_slot (name:=Str.ofString "__next__") hT F.slot_enumerate_next
  (wpAny_call_entry F.slot_enumerate_next hT F.entry_enumerate_next ?_ (F.args_enumerate_next_1 _))))
 show wpAny _ _ (field (.ref e) 2 >>= _) _ _ _
 refine wpAny_bind (wpAny_field he rfl (x:= .ref it) rfl ?_)
 obtain ⟨o,ho,hc,hd⟩:=id hit
 obtain ⟨ol,hol,_,nl,hdl⟩:=hl
 refine wpAny_bind ?_
 unfold Builtin.SmallTypes.nextOf
 refine wpAny_bind (wpAny_callSpecial?_slot (name:=Str.ofString "__next__") hit.typeIs slot_listiter_next
  (wpAny_call_entry slot_listiter_next hit.typeIs entry_listiter_next ?_ (args_listiter_next _)))
 show wpAny _ _ (field (.ref it) 0 >>= _) _ _ s
 refine wpAny_bind (wpAny_field ho hd (x:= .ref l) rfl ?_)
 show wpAny _ _ (if (Value.ref l==Value.none)=true then _ else _) _ _ s
 rw [if_neg (show ¬((Value.ref l==Value.none)=true) from Bool.false_ne_true)]
 show wpAny _ _ (field (.ref it) 1 >>= _) _ _ s
 refine wpAny_bind (wpAny_field ho hd (x:= .int i 0) rfl ?_)
 show wpAny _ _ (seqItems? (.ref l) >>= _) _ _ s
 refine wpAny_bind (wpAny_seqItems hol hdl ?_)
 simp only [Int.toNat_natCast,hx]
 refine wpAny_bind (wpAny_rule (wpAny_bind (wpAny_setField ho hd (by simp) ?_)))
 refine zAS (hh.but rfl ho hd (by simp) (Heap.SameBut.update ..)) fun e h' hk hx=> ?_
 refine wpAny_bind (wpAny_isInstance (T:="StopIteration") (b:=true) hx isSubtype_stop ?_)
 exact wpAny_pure (hQ _ fun b o hb x=>hk b o ((Heap.SameBut.update ..).extBut b o hb x))
theorem Wk.enum {I it l:Addr} {vs:Array Value} {elts:List Expr} {k:Nat} {pos:Pos} {xs:List D}:
  Wk prog w A (.Tuple elts k pos) I (fun a=>a=I∨a=it) (fun V=>False) (zDl 0 xs) (zNi I it l vs xs) where
 item:=fun i d P s Q E hd hal ⟨hI,hit,hne,hl,⟨old,he⟩,h1,h2,h3⟩ hQ=>by
  rw [zGp] at hd
  obtain ⟨d',hd',rfl⟩:=Option.map_eq_some_iff.mp hd
  obtain ⟨v,e,r⟩:=h3.get hd'
  refine wpAny_pyNext_enum_item he h1 h2 (x:=v) (by simpa using e) hne fun h' heo hit' ht hz hk=> ?_
  refine zDu heo fun h'' he'' hs=> ?_
  have hn: ¬P s.heap.objs.size:=fun x=>by
   obtain ⟨o,ho⟩:=hal _ x
   exact absurd (Heap.lt_size ho) (Nat.lt_irrefl _)
  have hnI:s.heap.objs.size≠I:=fun x=>hn (x▸hI)
  have kb:zAC (fun a=>a=I∨a=it) s {s with heap:=h'',toks:=s.toks + 1}:=
   ⟨h'',_,rfl,fun a o na e=>hs.extBut a o (fun x=>na (.inl x)) (hk a o (fun x=>na (.inl x)) (fun x=>na (.inr x)) e)⟩
  have hP: ∀a,(a=I∨a=it)→P a:=fun a e=>by rcases e with rfl | rfl <;> assumption
  refine hQ _ _ kb ?_ ⟨hI,hit,hne,hl,⟨v,by exact_mod_cast he''⟩,hit'.extBut hs.extBut (Ne.symm hne), ?_,h3.keepBut kb hP⟩
  ·refine .tuple (vs:= #[.int i s.toks,v]) (n:=0) (hs.extBut _ _ hnI ht) hn (.cons ?_ (.cons (r.keepBut kb hP) .nil))
   simpa using RdW.int _ _
  ·exact h2.at fun o e=>kb.get (s':={s with heap:=h'',toks:=s.toks + 1}) (fun x=>hl (hP _ x)) e
 done:=fun P s Q E hh ⟨_,_,_,_,⟨old,he⟩,h1,h2,h3⟩ hQ=>by
  rw [zDe] at he h1
  refine zDJ hh he h1 h2 ?_ fun h' he'=>hQ _ (zAC.ext he' (.inr rfl))
  have:=h3.length
  rw [←this]; simp
 self:=fun i P s Q E ⟨_,_,_,_,⟨old,he⟩,_⟩ hQ=>by
  have hT:s.TypeIs (.ref I) "enumerate":=⟨_,he,rfl⟩
  refine wpAny_pyIter_slot hT F.slot_enumerate_iter (wpAny_call_entry F.slot_enumerate_iter hT F.entry_enumerate_iter ?_ (F.args_enumerate_iter_1 _))
  show wpAny _ _ (ret (.ref I)) _ _ s
  exact wpAny_pure ⟨_,rfl,"enumerate",_,hT,F.slot_enumerate_next.lookup,hQ⟩
 frame:=fun i P P' h h' O hOP hO _ hw hP ⟨hI,hit,hne,hl,⟨old,he⟩,h1,h2,h3⟩ hk=>⟨hw _ (.inl rfl),hw _ (.inr rfl),hne,fun x=>hl (hP _ _ h2.choose_spec.1 x),⟨old,hk _ _ (fun x=>hO _ x (.inl rfl)) he⟩,
  h1.at fun o e=>hk _ o (fun x=>hO _ x (.inr rfl)) e,h2.at fun o e=>hk _ o (fun x=>hl (hOP _ x)) e,h3.step (fun a o na e=>hk a o (fun x=>na (hOP _ x)) e) hP⟩
 live:=fun i P h ⟨hI,hit,_,_,⟨_,he⟩,⟨o,ho,_⟩,_⟩ a ha=>by
  rcases ha with rfl | rfl
  ·exact ⟨hI,_,he⟩
  ·exact ⟨hit,o,ho⟩
end
theorem cl {α:Type} {l:List α} {n:Nat} (h:l.length=n + 1): ∃a r,l=a :: r∧r.length=n:=by
 induction l using List.casesOn with
 | nil=>cases h
 | cons a r=>exact ⟨a,r,rfl,Nat.succ.inj h⟩
theorem cl0 {α:Type} {l:List α} (h:l.length=0):l=[]:=List.eq_nil_of_length_eq_zero h
theorem zAB {α β:Type} {o:Option α} {f:α→Option β} {b:β} (h:bnd o f=some b): ∃a,o=some a∧f a=some b:=by
 induction o with
 | none=>cases h
 | some a=>exact ⟨a,rfl,h⟩
theorem zAJ {τ:Type} (x y:τ):zAA true x y=x:=rfl
theorem zAF {τ:Type} (x y:τ):zAA false x y=y:=rfl
theorem zAD {α:Type} {b:Bool} {x:Option α} {r:α} (h:zAA b x none=some r):b=true∧x=some r:=by
 induction b with
 | true=>exact ⟨rfl,h⟩
 | false=>cases h
theorem zCz {α:Type} (n:Nat) (k:Nat→α):zDA n k=k n:=by cases n <;> rfl
theorem zBh {α:Type} (i:Int) (k:Int→α):zDB i k=k i:=by
 induction i with
 | ofNat n=>exact zCz n fun m=>k (.ofNat m)
 | negSucc n=>exact zCz n fun m=>k (.negSucc m)
theorem zAZ (i:Int):zCo i=some (.int i):=zBh _ _
theorem zFv (i:Int):zLB i=i.natAbs:=by cases i <;> rfl
theorem zBb {α:Type} (l:List α):len l=l.length:=by
 induction l with
 | nil=>rfl
 | cons a l ih=>show Nat.succ (len l)=_; rw [ih]; rfl
theorem zLK (m n:Nat):Nat.ble m n=decide (m≤n):=by
 rw [Bool.eq_iff_iff,decide_eq_true_eq]
 exact ⟨Nat.le_of_ble_eq_true,Nat.ble_eq_true_of_le⟩
theorem nblt (m n:Nat):Nat.blt m n=decide (m < n):=by
 rw [Bool.eq_iff_iff,decide_eq_true_eq]
 exact ⟨fun h=>Nat.le_of_ble_eq_true h,fun h=>Nat.ble_eq_true_of_le h⟩
theorem zEx (m n:Nat):Nat.beq m n=decide (m=n):=by
 rw [Bool.eq_iff_iff,decide_eq_true_eq]
 exact ⟨Nat.eq_of_beq_eq_true,fun h=>by subst h; exact Nat.beq_refl m⟩
theorem zAH {α:Type} {l:List α} (h:zAI l=true):l.length≤100000:=by
 unfold zAI at h
 rw [zLK,zBb] at h
 exact of_decide_eq_true h
theorem zCf {i:Int} (h:zBB i=true):i.natAbs < 2 ^ 64:=by
 unfold zBB at h
 rw [nblt,zFv] at h
 exact of_decide_eq_true h
theorem zAq {i:Int} (h:zAU i=true):i.natAbs < 2 ^ 62:=by
 unfold zAU at h
 rw [nblt,zFv] at h
 exact of_decide_eq_true h
theorem zDa (a b:Int):ltI a b=decide (a < b):=by
 cases a <;> cases b <;> simp only [ltI,nblt] <;> (rw [Bool.eq_iff_iff]; simp only [decide_eq_true_eq,Bool.false_eq_true,true_iff,false_iff,Int.ofNat_eq_natCast]; lia)
theorem zKO (a b:Int):leI a b=decide (a≤b):=by
 cases a <;> cases b <;> simp only [leI,zLK] <;> (rw [Bool.eq_iff_iff]; simp only [decide_eq_true_eq,Bool.false_eq_true,true_iff,false_iff,Int.ofNat_eq_natCast]; lia)
theorem zDd (a b:Int):eqI a b=decide (a=b):=by
 cases a <;> cases b <;> simp only [eqI,zEx] <;> (rw [Bool.eq_iff_iff]; simp only [decide_eq_true_eq,Bool.false_eq_true,true_iff,false_iff,Int.ofNat_eq_natCast]; lia)
theorem zSd (a b:Bool):eqB a b=(a==b):=by cases a <;> cases b <;> rfl
theorem zCh (b:Bool):zEm b= !b:=by cases b <;> rfl
theorem zFu (b:Bool):zKv b=if b then 1 else 0:=by cases b <;> rfl
theorem zAa {α:Type} (l m:List α):app l m=l++m:=by
 induction l with
 | nil=>rfl
 | cons a l ih=>show a :: app l m=_; rw [ih]; rfl
theorem zKK {α β:Type} (f:α→β) (l:List α):zLL f l=l.map f:=by
 induction l with
 | nil=>rfl
 | cons a l ih=>show f a :: zLL f l=_; rw [ih]; rfl
theorem zOI {α:Type} (l m:List α):revA l m=l.reverse++m:=by
 induction l generalizing m with
 | nil=>rfl
 | cons a l ih=>show revA l (a :: m)=_; rw [ih]; simp
theorem zEt {α:Type} (l:List α):rev l=l.reverse:=by unfold rev; rw [zOI]; simp
theorem zHv (i:Int):toN i=i.toNat:=by cases i <;> rfl
theorem zEK {α:Type} (l:List α) (n:Nat):zFW l n=l[n]? :=by
 induction l generalizing n with
 | nil=>simp [zFW]
 | cons a l ih=>
  induction n with
  | zero=>rfl
  | succ n=>show zFW l n=_; rw [ih]; simp
theorem zHw {α:Type} (n:Nat) (l:List α):zBk n l=l.take n:=by
 induction l generalizing n with
 | nil=>simp [zBk]
 | cons a l ih=>
  induction n with
  | zero=>rfl
  | succ n=>show a :: zBk n l=_; rw [ih]; rfl
theorem zFp {α:Type} (n:Nat) (l:List α):zEZ n l=l.drop n:=by
 induction n generalizing l with
 | zero=>rfl
 | succ n ih=>
  induction l using List.casesOn with
  | nil=>rfl
  | cons a l=>show zEZ n l=_; rw [ih]; rfl
theorem zOP (l:List D) (n:Nat):zOQ l n=(List.replicate n l).flatten:=by
 induction n with
 | zero=>rfl
 | succ n ih=>show app l (zOQ l n)=_; rw [zAa,ih,List.replicate_succ,List.flatten_cons]
theorem zLY (x y:Str):zLZ x y=(x==y):=by
 unfold zLZ
 rw [Bool.eq_iff_iff]; simp
theorem zFr (a b:Nat):zPI a b=max a b:=by
 unfold zPI
 rw [zLK]
 by_cases h:a≤b
 ·rw [decide_eq_true h,zAJ]; lia
 ·rw [decide_eq_false h,zAF]; lia
mutual
theorem zDS: ∀a b:D,zBS a b=PyData.eqv a b
 | .none,b=>by cases b <;> rfl
 | .bool x,b=>by
  induction b using PyData.casesOn with
  | bool y=>exact zSd x y
  | int j=>show eqI _ _=(_==_); rw [zDd,zFu]; rfl
  | _=>rfl
 | .int i,b=>by
  induction b using PyData.casesOn with
  | bool y=>show eqI _ _=(_==_); rw [zDd,zFu]; rfl
  | int j=>show eqI _ _=(_==_); rw [zDd]; rfl
  | _=>rfl
 | .str s,b=>by
  induction b using PyData.casesOn with
  | str t=>show zLZ _ _=(_==_); rw [zLY]
  | _=>rfl
 | .list xs,b=>by
  induction b using PyData.casesOn with
  | list ys=>exact zFn xs ys
  | _=>rfl
 | .tuple xs,b=>by
  induction b using PyData.casesOn with
  | tuple ys=>exact zFn xs ys
  | _=>rfl
 | .dict k,b=>by cases b <;> rfl
theorem zFn: ∀xs ys:List D,zBS (.list xs) (.list ys)=PyData.eqvAll xs ys
 | [],[]=>rfl
 | [],_ :: _=>rfl
 | _ :: _,[]=>rfl
 | x :: xs,y :: ys=>by
  show zAA (zBS x y) (zBS (.list xs) (.list ys)) false=_
  rw [zDS x y,zFn xs ys,PyData.eqvAll]
  cases PyData.eqv x y <;> rfl
end
mutual
theorem zHm: ∀a:D,a.canLay0=true→zLS a=a.depth
 | .none,_=>by simp [PyData.depth]; rfl
 | .bool _,_=>by simp [PyData.depth]; rfl
 | .int _,_=>by simp [PyData.depth]; rfl
 | .str _,_=>by simp [PyData.depth]; rfl
 | .list xs,h=>by rw [PyData.depth]; exact zFq xs (by simpa [PyData.canLay0] using h)
 | .tuple xs,h=>by rw [PyData.depth]; exact zFq xs (by simpa [PyData.canLay0] using h)
 | .dict _,h=>by simp [PyData.canLay0] at h
theorem zFq: ∀xs:List D,PyData.canLayAll0 xs=true→zLS (.list xs)=PyData.depthAll xs + 1
 | [],_=>rfl
 | x :: xs,h=>by
  have h':x.canLay0=true∧PyData.canLayAll0 xs=true:=by simpa [PyData.canLayAll0] using h
  have e:=zFq xs h'.2
  rw [PyData.depthAll, ←zHm x h'.1]
  have e2:zLS (.list (x :: xs))=Nat.succ (zPI (zLS x) (Nat.pred (zLS (.list xs)))):=rfl
  rw [e2,e,zFr]; rfl
end
theorem zCO {a:D} (ha:a.canLay0=true) (h:zJc a=true):a.depth≤60:=by
 unfold zJc at h
 cases hf:zQY a with
 | true=>cases a <;> first | (simp [PyData.depth]; done) | (exact absurd hf (fun x=>Bool.noConfusion x))
 | false=>
  rw [hf,zAF,zLK,zHm a ha] at h
  exact of_decide_eq_true h
theorem zMl {a:D} (h:zQY a=true):a.depth=0:=by
 cases a <;> first | (simp [PyData.depth]; done) | (exact absurd h (fun x=>Bool.noConfusion x))
theorem zIR {a b:D} {r:Bool} (ha:a.canLay0=true) (hb:b.canLay0=true) (h:eqD a b=some r):r=PyData.eqv a b∧min a.depth b.depth≤60:=by
 unfold eqD at h
 cases hf:zQY a with
 | true=>
  rw [hf,zAJ,zDS] at h
  cases h
  exact ⟨rfl,by rw [zMl hf]; lia⟩
 | false=>
  rw [hf,zAF] at h
  cases hs:zJc b with
  | true=>
   rw [hs,zAJ,zDS] at h
   cases h
   exact ⟨rfl,by have:=zCO hb hs; lia⟩
  | false=>
   rw [hs,zAF] at h
   obtain ⟨h1,h2⟩:=zAD h
   rw [zDS] at h2
   cases h2
   exact ⟨rfl,by have:=zCO ha h1; lia⟩
theorem zDs (a:D) (l:List D):zGx a l=l.any fun y=>PyData.eqv y a:=by
 induction l with
 | nil=>rfl
 | cons x l ih=>
  show zAA (zBS x a) true (zGx a l)=_
  rw [zDS,ih,List.any_cons]
  cases PyData.eqv x a <;> rfl
mutual
noncomputable def zGj (w:World):D→Int
 | .int i=>hashInt i
 | .str x=>hashStr w x
 | .tuple l=>reduceHash (Builtin.Tuple.tupleHashOf (zCB w l))
 | _=>0
noncomputable def zCB (w:World):List D→List Int
 | []=>[]
 | d :: l=>zGj w d :: zCB w l
end
mutual
noncomputable def zCD:D→Nat
 | .tuple l=>zCm l + 1
 | _=>1
noncomputable def zCm:List D→Nat
 | []=>0
 | d :: l=>zCD d + zCm l
end
theorem zCw {d:D} {l:List D} (h:zFy (.tuple (d :: l))=true):zFy d=true∧zFy (.tuple l)=true:=by
 have h:zAA (zFy d) (zFy (.tuple l)) false=true:=h
 cases e:zFy d with
 | true=>rw [e] at h; exact ⟨rfl,h⟩
 | false=>rw [e] at h; cases h
theorem zDD {d:D} {l:List D}:PyData.depthAll (d :: l)=max d.depth (PyData.depthAll l):=by rw [PyData.depthAll]
section
variable {prog:Program} {w:World}
mutual
theorem zEv: ∀(k:D) (A:Around) (P:Addr→Prop) (v:Value) (s:Shared) (Q:Int→Shared→Prop) (E:Value→Shared→Prop),zFy k=true→RdW P s.heap v k→A.units + k.depth < cLine→
  Q (zGj w k) {s with toks:=s.toks + zCD k}→wpAny (model prog w) A (PySem.pyHash v) Q E s
 | .int i,A,P,v,s,Q,E,hk,r,hu,h=>by
  obtain ⟨t,rfl⟩:=r.intInv
  exact wpAny_pyHash_int (by simpa [zGj,zCD] using h)
 | .str x,A,P,v,s,Q,E,hk,r,hu,h=>by
  obtain ⟨t,rfl⟩:=r.strInv
  exact wpAny_pyHash_str (by simpa [zGj,zCD] using h)
 | .tuple l,A,P,v,s,Q,E,hk,r,hu,h=>by
  obtain ⟨a,vs,n,rfl,g,_,q⟩:=r.tupInv
  have hT:s.TypeIs (.ref a) "tuple":=⟨_,g,rfl⟩
  rw [PyData.depth] at hu
  unfold pyHash
  first | unfold pyHashByItsType | skip
  first | refine wpAny_bind (wpAny_cRoomFor_or (.inr (by lia)) ?_) | skip
  refine wpAny_bind (wpAny_specialOf hT F.slot_tuple_hash.lookup ?_)
  show wpAny _ _ (if (some (Value.builtin "tuple.__hash__")==some Value.none)=true then _ else _) Q E s
  rw [if_neg (by rw [beq_builtin_none]; exact Bool.false_ne_true)]
  refine wpAny_bind (wpAny_specialOf hT F.slot_tuple_hash.lookup ?_)
  show wpAny _ _ (callSpecialIfBoundUnlessNone? (.ref a) "__hash__" _ >>= _) Q E s
  refine wpAny_bind (wpAny_callSpecialIfBoundUnlessNone?_slot hT F.slot_tuple_hash (wpAny_call_entry F.slot_tuple_hash hT F.entry_tuple_hash ?_ (F.args_tuple_hash_1 _)))
  show wpAny _ _ (Builtin.Tuple.tupleItemsOf (.ref a) >>= _) _ _ s
  refine wpAny_bind (wpAny_tupleItemsOf g rfl ?_)
  refine wpAny_bind ?_
  rw [←Array.forIn_toList]
  refine zEH l A.in1 P vs.toList s #[] _ _ hk q (by show A.units + 1 + _ < _; lia) ?_
  show wpAny _ _ (retInt (Builtin.Tuple.tupleHashOf _)) _ _ _
  refine wpAny_ret_mkInt ?_
  show wpAny _ _ (if (decide (-(2:Int) ^ 63≤_)&&decide (_ < (2:Int) ^ 63))=true then _ else _) Q E _
  rw [zGj,zCD] at h
  have e0:((#[]:Array Int)++(zCB w l).toArray).toList=zCB w l:=by simp
  rw [e0]
  unfold reduceHash at h
  by_cases hr:(decide (-(2:Int) ^ 63≤Builtin.Tuple.tupleHashOf (zCB w l))&&decide (Builtin.Tuple.tupleHashOf (zCB w l) < 2 ^ 63))=true
  ·rw [if_pos hr]
   rw [if_pos hr] at h
   exact wpAny_pure (by simpa [Nat.add_assoc] using h)
  ·rw [if_neg hr]
   rw [if_neg hr] at h
   exact wpAny_bind (wpAny_rule (wpAny_pure (by simpa [Nat.add_assoc] using h)))
 | .none,A,P,v,s,Q,E,hk,r,hu,h=>by cases hk
 | .bool _,A,P,v,s,Q,E,hk,r,hu,h=>by cases hk
 | .list _,A,P,v,s,Q,E,hk,r,hu,h=>by cases hk
 | .dict _,A,P,v,s,Q,E,hk,r,hu,h=>by cases hk
theorem zEH: ∀(l:List D) (A:Around) (P:Addr→Prop) (vs:List Value) (s:Shared) (acc:Array Int) (Q:Array Int→Shared→Prop) (E:Value→Shared→Prop),zFy (.tuple l)=true→zAK P s.heap vs l→
  A.units + PyData.depthAll l < cLine→Q (acc++(zCB w l).toArray) {s with toks:=s.toks + zCm l}→
  wpAny (model prog w) A (forIn vs acc fun v r=>do let i←PySem.pyHash v; pure (ForInStep.yield (r.push i))) Q E s
 | [],A,P,vs,s,acc,Q,E,hk,r,hu,h=>by
  cases r
  rw [List.forIn_nil]
  exact wpAny_pure (by simpa [zCB,zCm] using h)
 | d :: l,A,P,_,s,acc,Q,E,hk, .cons r q,hu,h=>by
  obtain ⟨k1,k2⟩:=zCw hk
  rw [zDD] at hu
  rw [List.forIn_cons]
  refine wpAny_bind (wpAny_bind (zEv d A P _ s _ _ k1 r (by lia) (wpAny_pure ?_)))
  refine zEH l A P _ {s with toks:=s.toks + zCD d} (acc.push (zGj w d)) Q E k2 q (by lia) ?_
  have e:(acc.push (zGj w d))++(zCB w l).toArray=acc++(zCB w (d :: l)).toArray:=by rw [zCB]; simp
  rw [e]
  have e2:s.toks + zCD d + zCm l=s.toks + zCm (d :: l):=by rw [zCm]; lia
  dsimp only
  rw [e2]; exact h
end
mutual
theorem zGT: ∀(k:D) (n:Nat) (A:Around) (P:Addr→Prop) (v:Value) (s:Shared) (Q:Bool→Shared→Prop) (E:Value→Shared→Prop),zFy k=true→RdW P s.heap v k→k.depth≤n→
  Q true s→wpAny (model prog w) A (eqIsQuiet n v) Q E s
 | .int i,n,A,P,v,s,Q,E,hk,r,hu,h=>by
  obtain ⟨t,rfl⟩:=r.intInv
  rw [eqIsQuiet_byValue n (by rfl)]
  exact wpAny_pure h
 | .str x,n,A,P,v,s,Q,E,hk,r,hu,h=>by
  obtain ⟨t,rfl⟩:=r.strInv
  rw [eqIsQuiet_byValue n (by rfl)]
  exact wpAny_pure h
 | .tuple l,0,A,P,v,s,Q,E,hk,r,hu,h=>by rw [PyData.depth] at hu; lia
 | .tuple l,n + 1,A,P,v,s,Q,E,hk,r,hu,h=>by
  obtain ⟨a,vs,m,rfl,g,_,q⟩:=r.tupInv
  have hT:s.TypeIs (.ref a) "tuple":=⟨_,g,rfl⟩
  rw [PyData.depth] at hu
  unfold eqIsQuiet
  refine wpAny_bind (wpAny_specialOf hT F.slot_tuple_eq.lookup ?_)
  show wpAny _ _ (isInstance (.ref a) (.type "tuple") >>= _) _ _ s
  refine wpAny_bind (wpAny_isInstance hT isSubtype_tuple_tuple ?_)
  simp only [Bool.not_true,Bool.false_eq_true,if_false]
  refine wpAny_bind (wpAny_seqItems g rfl ?_)
  refine wpAny_bind ?_
  show wpAny _ _ (forIn vs _ _) _ _ s
  rw [←Array.forIn_toList]
  refine zEu l n A P vs.toList s _ _ hk q (by lia) ?_
  exact wpAny_pure h
 | .none,n,A,P,v,s,Q,E,hk,r,hu,h=>by cases hk
 | .bool _,n,A,P,v,s,Q,E,hk,r,hu,h=>by cases hk
 | .list _,n,A,P,v,s,Q,E,hk,r,hu,h=>by cases hk
 | .dict _,n,A,P,v,s,Q,E,hk,r,hu,h=>by cases hk
theorem zEu: ∀(l:List D) (n:Nat) (A:Around) (P:Addr→Prop) (vs:List Value) (s:Shared) (Q:Option Bool×PUnit→Shared→Prop) (E:Value→Shared→Prop),zFy (.tuple l)=true→zAK P s.heap vs l→
  PyData.depthAll l≤n→Q (none,⟨⟩) s→
  wpAny (model prog w) A (forIn vs ((none,⟨⟩):Option Bool×PUnit) fun y (r:Option Bool×PUnit)=>do let q←eqIsQuiet n y; if (!q)=true then pure (ForInStep.done (some false,⟨⟩)) else pure (ForInStep.yield (none,⟨⟩))) Q E s
 | [],n,A,P,vs,s,Q,E,hk,r,hu,h=>by
  cases r
  rw [List.forIn_nil]
  exact wpAny_pure h
 | d :: l,n,A,P,_,s,Q,E,hk, .cons r q,hu,h=>by
  obtain ⟨k1,k2⟩:=zCw hk
  rw [zDD] at hu
  rw [List.forIn_cons]
  refine wpAny_bind (wpAny_bind (zGT d n A P _ s _ _ k1 r (by lia) ?_))
  simp only [Bool.not_true,Bool.false_eq_true,if_false]
  exact wpAny_pure (zEu l n A P _ s Q E k2 q (by lia) h)
end
theorem zBQ {k:D} (h:zAe k=true): ∃l,k= .tuple l∧zFy k=true∧zLS k≤7:=by
 induction k using PyData.casesOn with
 | tuple l=>
  have h:zAA (zFy (.tuple l)) (Nat.ble (zLS (.tuple l)) 7) false=true:=h
  cases e:zFy (.tuple l) with
  | true=>rw [e,zAJ,zLK] at h; exact ⟨l,rfl,e▸rfl,of_decide_eq_true h⟩
  | false=>rw [e] at h; cases h
 | _=>cases h
theorem zFm: ∀(a b:D),zFy a=true→zFy b=true→(PyData.eqv a b=true ↔ a=b)
 | .int i,b,_,hb=>by
  induction b using PyData.casesOn with
  | int j=>simp [PyData.eqv]
  | _=>first | (simp [PyData.eqv]; done) | cases hb
 | .str i,b,_,hb=>by
  induction b using PyData.casesOn with
  | str j=>simp [PyData.eqv]
  | _=>first | (simp [PyData.eqv]; done) | cases hb
 | .tuple [],b,_,hb=>by
  induction b using PyData.casesOn with
  | tuple m=>cases m <;> simp [PyData.eqv,PyData.eqvAll]
  | _=>first | (simp [PyData.eqv]; done) | cases hb
 | .tuple (x :: l),b,ha,hb=>by
  induction b using PyData.casesOn with
  | tuple m=>
   induction m using List.casesOn with
   | nil=>simp [PyData.eqv,PyData.eqvAll]
   | cons y m=>
    obtain ⟨a1,a2⟩:=zCw ha; obtain ⟨b1,b2⟩:=zCw hb
    have e1:=zFm x y a1 b1; have e2:=zFm (.tuple l) (.tuple m) a2 b2
    simp only [PyData.eqv] at e2
    simp only [PyData.eqv,PyData.eqvAll,Bool.and_eq_true,e1,e2]
    simp
  | _=>first | (simp [PyData.eqv]; done) | cases hb
 | .none,_,ha,_=>by cases ha
 | .bool _,_,ha,_=>by cases ha
 | .list _,_,ha,_=>by cases ha
 | .dict _,_,ha,_=>by cases ha
theorem zPy {vs us:Array Value} {n m:Nat} (h:some (zBz vs n)=some (zPH us m)):False:=absurd (Value.type.inj (show Value.type "list"= .type "tuple" from congrArg Obj.cls (Option.some.inj h))) (by decide)
theorem RdW.inj {W W':Addr→Prop} {h:Heap} {v:Value} {x y:D} (r:RdW W h v x):RdW W' h v y→x=y:=
 (zLg (P:=fun v x=>∀y,RdW W' h v y→x=y) (Ps:=fun vs xs=>∀ys,zAK W' h vs ys→xs=ys) (fun V q=>by cases q; rfl) (fun V V q=>by cases q; rfl) (fun V V V q=>by cases q; rfl) (fun V V V V q=>by cases q; rfl)
  (fun h1 V V i V q=>by cases q with
   | list g1 _ g5=>rw [h1] at g1; cases g1; rw [i _ g5]
   | tuple g1 _ g5=>rw [h1] at g1; exact (zPy g1).elim)
  (fun h1 V V i V q=>by cases q with
   | list g1 _ g5=>rw [h1] at g1; exact (zPy g1.symm).elim
   | tuple g1 _ g5=>rw [h1] at g1; cases g1; rw [i _ g5])
  (fun V q=>by cases q; rfl) fun i j V q=>by cases q with | cons a b=>rw [i _ a,j _ b]).1 r y
theorem RdW.noDictAt {W:Addr→Prop} {h:Heap} {d:Addr} {o:Obj} {es ep} (ho:h.get? d=some o) (hd:o.data= .dict es ep) {v:Value} {x:D} (r:RdW W h v x):RdW (fun a=>W a∨a=d) h v x:=
 (zJs fun a o' s n e=>⟨e,fun q=>q.elim n fun q=>by
  obtain ⟨vs,m,s⟩:=s
  rw [q,ho] at e
  obtain rfl:=Option.some.inj e
  rw [hd] at s; cases s⟩).1 r
def zHq (h:Heap) (k:D) (a:Addr):Prop:=RdW (fun V=>False) h (.ref a) k∧zAe k=true
theorem zAr {P:Addr→Prop} {h:Heap} {v:Value} {k:D} (r:RdW P h v k) (hk:zAe k=true):zFy k=true∧k.depth≤7:=by
 obtain ⟨l,rfl,h1,h2⟩:=zBQ hk
 rw [zHm _ r.lay0] at h2
 exact ⟨h1,h2⟩
open Classical in
noncomputable def zHY (prog:Program) (w:World):HeapKind prog w D where
 is:=zHq
 hash:=zGj w
 draws:=zCD
 room:=fun A=>A.units + 8 < cLine
 inj:=fun hx hy=>hx.1.inj hy.1
 keeps:=fun hx ho hd hs=>⟨(hx.1.noDictAt ho hd).step (fun a o na e=>(hs.2 a fun x=>na (.inr x)).trans e) fun V V V f=>f.elim,hx.2⟩
 pyHash:=fun hu hk h=>zEv _ _ _ _ _ _ _ (zAr hk.1 hk.2).1 hk.1 (by have:=(zAr hk.1 hk.2).2; lia) h
 eqBool:=fun {A E s x y a b Q} hu hx hy h=>by
  obtain ⟨_,r1⟩:=hx.1.reads; obtain ⟨_,r2⟩:=hy.1.reads
  have d1:=(zAr hx.1 hx.2).2
  refine SeqAt.eqBoolOverData prog w A E s _ _ x y _ _ Q r1 r2 hx.1.lay0 hy.1.lay0 (by lia) ?_
  have e:decide (x=y)=PyData.eqv x y:=by
   have:=zFm x y (zAr hx.1 hx.2).1 (zAr hy.1 hy.2).1
   rw [Bool.eq_iff_iff,decide_eq_true_eq]; exact this.symm
  rw [←e]; exact h
 quiet:=fun hk h=>zGT _ 8 _ _ _ _ _ _ (zAr hk.1 hk.2).1 hk.1 (by have:=(zAr hk.1 hk.2).2; lia) h
end
section
def SD (w:World) (P:Addr→Prop) (h:Heap) (a:Addr) (kvs:List (D×D)):Prop:=
 ∃ss:List (Str×Value),(∀prog,h.DictOf (strKind prog w) a ss)∧Paired (fun (x:Str×Value) (kv:D×D)=>kv.1= .str x.1∧PyData.strOk x.1=true∧RdW P h x.2 kv.2) ss kvs
open Classical in
def TD (w:World) (P:Addr→Prop) (h:Heap) (a:Addr) (kvs:List (D×D)):Prop:=
 ∃xs:List (D×Addr×Value),(∀prog,h.DictOfH (zHY prog w) a xs)∧Paired (fun (x:D×Addr×Value) (kv:D×D)=>kv.1=x.1∧RdW P h (.ref x.2.1) x.1∧zAe x.1=true∧RdW P h x.2.2 kv.2) xs kvs
def zAc (w:World) (P:Addr→Prop) (h:Heap) (a:Addr) (kvs:List (D×D)):Prop:=(a==sysModules)=false∧(SD w P h a kvs∨TD w P h a kvs)
theorem zLJ {α β:Type} {F G:α→β→Prop} {l:List α} {m:List β} (x:Paired F l m) (f: ∀a b,F a b→G a b):Paired G l m:=by
 induction x with
 | nil=>exact .nil
 | cons a _ ih=>exact .cons (f _ _ a) ih
theorem pMem {α β:Type} {F:α→β→Prop} {l:List α} {m:List β} (x:Paired F l m) {a:α} (ha:a∈l): ∃b∈m,F a b:=by
 induction x with
 | nil=>simp at ha
 | cons f _ ih=>
  rcases List.mem_cons.mp ha with rfl | ha
  ·exact ⟨_,List.mem_cons_self,f⟩
  ·obtain ⟨b,hb,hf⟩:=ih ha; exact ⟨b,List.mem_cons_of_mem _ hb,hf⟩
theorem pApp {α β:Type} {F:α→β→Prop} {l l':List α} {m m':List β} (x:Paired F l m) (y:Paired F l' m'):Paired F (l++l') (m++m'):=by
 induction x with
 | nil=>exact y
 | cons a _ ih=>exact .cons a ih
theorem RdW.toF {P:Addr→Prop} {h:Heap} {v:Value} {d:D} (x:RdW P h v d):RdW (fun V=>False) h v d:=x.step (fun V V V e=>e) fun V V V f=>f.elim
section
variable {w:World} {P P':Addr→Prop} {h h':Heap} {a:Addr} {kvs:List (D×D)}
theorem SD.step (x:SD w P h a kvs) (ha: ∀o,h.get? a=some o→h'.get? a=some o) (hk: ∀a o,¬P a→h.get? a=some o→h'.get? a=some o) (hw: ∀a o,h.get? a=some o→P' a→P a):SD w P' h' a kvs:=by
 obtain ⟨ss,h1,h2⟩:=x
 exact ⟨ss,fun p=>Heap.DictOf.at (h1 p) ha,zLJ h2 fun _ _ ⟨a,b,c⟩=>⟨a,b,c.step hk hw⟩⟩
open Classical in
theorem TD.step (x:TD w P h a kvs) (ha: ∀o,h.get? a=some o→h'.get? a=some o) (hk: ∀a o,¬P a→h.get? a=some o→h'.get? a=some o) (hw: ∀a o,h.get? a=some o→P' a→P a):TD w P' h' a kvs:=by
 obtain ⟨xs,h1,h2⟩:=x
 have h3:Paired (fun (x:D×Addr×Value) (kv:D×D)=>kv.1=x.1∧RdW P' h' (.ref x.2.1) x.1∧zAe x.1=true∧RdW P' h' x.2.2 kv.2) xs kvs:=zLJ h2 fun V V y=>⟨y.1,y.2.1.step hk hw,y.2.2.1,y.2.2.2.step hk hw⟩
 refine ⟨xs,fun p=> ?_,h3⟩
 obtain ⟨o,es,ep,ho,hc,hd,he,hi,hn⟩:=h1 p
 refine ⟨o,es,ep,ha _ ho,hc,hd,he,fun x hx=> ?_,hn⟩
 obtain ⟨kv,_,_,r,kt,_⟩:=pMem h3 hx
 exact ⟨r.toF,kt⟩
theorem zAc.step (x:zAc w P h a kvs) (ha: ∀o,h.get? a=some o→h'.get? a=some o) (hk: ∀a o,¬P a→h.get? a=some o→h'.get? a=some o) (hw: ∀a o,h.get? a=some o→P' a→P a):zAc w P' h' a kvs:=
 ⟨x.1,x.2.imp (·.step ha hk hw) (·.step ha hk hw)⟩
theorem zAc.keep (x:zAc w P h a kvs) (hk: ∀a o,h.get? a=some o→h'.get? a=some o):zAc w P h' a kvs:=x.step (hk _) (fun a o V=>hk a o) fun V V V e=>e
theorem SD.at (x:SD w P h a kvs): ∃o es ep,h.get? a=some o∧o.ExactDict∧o.data= .dict es ep∧es.size=kvs.length:=by
 obtain ⟨ss,h1,h2⟩:=x
 obtain ⟨o,es,ep,ho,hc,hd,_,hp,_⟩:=h1 default
 exact ⟨o,es,ep,ho,hc,hd,by rw [←h2.length, ←hp.length]; simp⟩
open Classical in
theorem TD.at (x:TD w P h a kvs): ∃o es ep,h.get? a=some o∧o.ExactDict∧o.data= .dict es ep∧es.size=kvs.length:=by
 obtain ⟨xs,h1,h2⟩:=x
 obtain ⟨o,es,ep,ho,hc,hd,he,_,_⟩:=h1 default
 exact ⟨o,es,ep,ho,hc,hd,by rw [←h2.length]; exact size_of_entries he⟩
theorem zAc.at (x:zAc w P h a kvs): ∃o es ep,h.get? a=some o∧o.ExactDict∧o.data= .dict es ep∧es.size=kvs.length:=x.2.elim SD.at TD.at
open Classical in
theorem zAc.new (hs:(h.objs.size==sysModules)=false):zAc w P (h.push {cls:= .type "dict",data:= .dict #[]}) h.objs.size []:=
 ⟨hs, .inr ⟨[],fun V=>Heap.DictOfH.new h, .nil⟩⟩
theorem zAc.tup (x:zAc w P h a kvs) (ht:zEq kvs=true):TD w P h a kvs:=by
 rcases x.2 with ⟨ss,h1,h2⟩ | x
 ·cases h2 with
  | nil=>
   refine ⟨[],fun p=> ?_, .nil⟩
   obtain ⟨o,es,ep,ho,hc,hd,hk,hp,hn⟩:=h1 p
   refine ⟨o,es,ep,ho,hc,hd, ?_,fun V h=>by simp at h,List.nodup_nil⟩
   have:=hp.length
   exact List.eq_nil_of_length_eq_zero this
  | @cons s kv _ _ f _=>
   have ht:isTp kv.1=true:=ht
   rw [f.1] at ht; cases ht
 ·exact x
theorem zBU {a b:D} (ha:zAe a=true) (hb:zAe b=true):zBS a b=true ↔ a=b:=by
 obtain ⟨_,_,h1,_⟩:=zBQ ha; obtain ⟨_,_,h2,_⟩:=zBQ hb
 rw [zDS]; exact zFm a b h1 h2
abbrev zCn (P:Addr→Prop) (h:Heap) (x:D×Addr×Value) (kv:D×D):Prop:=kv.1=x.1∧RdW P h (.ref x.2.1) x.1∧zAe x.1=true∧RdW P h x.2.2 kv.2
variable {xs:List (D×Addr×Value)}
open Classical in
theorem zFL {x:D×Addr×Value} {k:D}:atKey (x :: xs) k=if x.1=k then some x.2 else atKey xs k:=by
 unfold atKey
 rw [List.find?_cons]
 by_cases e:x.1=k
 ·simp [e]
 ·simp [e]
open Classical in
theorem zBg {k v:D} (hk:zAe k=true) (x:Paired (zCn P h) xs kvs) (e:zBt k kvs=some v): ∃p:Addr×Value,atKey xs k=some p∧RdW P h (.ref p.1) k∧RdW P h p.2 v:=by
 induction x with
 | nil=>cases e
 | @cons y kv l m f _ ih=>
  have e:zAA (zBS kv.1 k) (some kv.2) (zBt k m)=some v:=e
  rw [zFL]
  rw [f.1] at e
  by_cases hy:y.1=k
  ·rw [(zBU f.2.2.1 hk).mpr hy,zAJ] at e
   cases e
   rw [if_pos hy]
   exact ⟨y.2,rfl,hy▸f.2.1,f.2.2.2⟩
  ·have:zBS y.1 k=false:=by
    cases q:zBS y.1 k with
    | false=>rfl
    | true=>exact absurd ((zBU f.2.2.1 hk).mp q) hy
   rw [this,zAF] at e
   rw [if_neg hy]
   exact ih e
open Classical in
theorem zCy {k:D} (hk:zAe k=true) (x:Paired (zCn P h) xs kvs) (e:zBt k kvs=none):atKey xs k=none:=by
 induction x with
 | nil=>rfl
 | @cons y kv l m f _ ih=>
  have e:zAA (zBS kv.1 k) (some kv.2) (zBt k m)=none:=e
  rw [zFL]
  rw [f.1] at e
  by_cases hy:y.1=k
  ·rw [(zBU f.2.2.1 hk).mpr hy,zAJ] at e; cases e
  ·have:zBS y.1 k=false:=by
    cases q:zBS y.1 k with
    | false=>rfl
    | true=>exact absurd ((zBU f.2.2.1 hk).mp q) hy
   rw [this,zAF] at e
   rw [if_neg hy]
   exact ih e
theorem zOk (k:D) (kvs:List (D×D)):zNb k kvs=(zBt k kvs).isSome:=by
 induction kvs with
 | nil=>rfl
 | cons kv m ih=>
  show zAA (zBS kv.1 k) true (zNb k m)=(zAA (zBS kv.1 k) (some kv.2) (zBt k m)).isSome
  cases zBS kv.1 k with
  | true=>rfl
  | false=>exact ih
open Classical in
theorem zDg {k:D} (hk:zAe k=true) (x:Paired (zCn P h) xs kvs):(atKey xs k).isSome=zNb k kvs:=by
 rw [zOk]
 cases e:zBt k kvs with
 | none=>rw [zCy hk x e]; rfl
 | some v=>obtain ⟨p,hp,_⟩:=zBg hk x e; rw [hp]; rfl
open Classical in
theorem zLi {k v:D} (x:Paired (zCn P h) xs kvs) (e:zBt k kvs=none):zEi k v kvs=kvs++[(k,v)]:=by
 clear x
 induction kvs with
 | nil=>rfl
 | cons kv m ih=>
  have e:zAA (zBS kv.1 k) (some kv.2) (zBt k m)=none:=e
  show zAA (zBS kv.1 k) ((kv.1,v) :: m) (kv :: zEi k v m)=_
  cases q:zBS kv.1 k with
  | true=>rw [q] at e; cases e
  | false=>rw [q,zAF] at e; rw [zAF,ih e]; rfl
open Classical in
theorem zLh {k v:D} {av:Addr} {vv:Value} (hk:zAe k=true) (hn:(xs.map (·.1)).Nodup) (x:Paired (zCn P h) xs kvs) (e:(zBt k kvs).isSome=true) (rv:RdW P h vv v):Paired (zCn P h) (xs.map (putAt k vv)) (zEi k v kvs):=by
 induction x with
 | nil=>cases e
 | @cons y kv l m f fm ih=>
  show Paired (zCn P h) (putAt k vv y :: l.map (putAt k vv)) (zAA (zBS kv.1 k) ((kv.1,v) :: m) (kv :: zEi k v m))
  rw [List.map_cons,List.nodup_cons] at hn
  have e:(zAA (zBS kv.1 k) (some kv.2) (zBt k m)).isSome=true:=e
  rw [f.1] at e ⊢
  by_cases hy:y.1=k
  ·rw [(zBU f.2.2.1 hk).mpr hy,zAJ]
   have hnot:k ∉ l.map (·.1):=hy▸hn.1
   rw [map_putAt_of_not_mem l k vv hnot,putAt,if_pos hy]
   exact .cons ⟨rfl,f.2.1,f.2.2.1,rv⟩ fm
  ·have:zBS y.1 k=false:=by
    cases q:zBS y.1 k with
    | false=>rfl
    | true=>exact absurd ((zBU f.2.2.1 hk).mp q) hy
   rw [this,zAF] at e
   rw [this,zAF,putAt,if_neg hy]
   exact .cons f (ih hn.2 e)
open Classical in
theorem zOL {k v:D} {av:Addr} {vv:Value} (hk:zAe k=true) (hn:(xs.map (·.1)).Nodup) (x:Paired (zCn P h) xs kvs) (rk:RdW P h (.ref av) k) (rv:RdW P h vv v):Paired (zCn P h) (PySem.storedH xs k av vv) (zEi k v kvs):=by
 cases e:zBt k kvs with
 | none=>
  rw [storedH_new (zCy hk x e),zLi x e]
  exact pApp x (.cons ⟨rfl,rk,hk,rv⟩ .nil)
 | some u=>
  obtain ⟨p,hp,_⟩:=zBg hk x e
  rw [storedH_old hp]
  exact zLh (av:=av) hk hn x (by rw [e]; rfl) rv
end
end
section
open Classical
variable {prog:Program} {w:World} {A:Around} {E:Value→Shared→Prop} {s:Shared} {P:Addr→Prop} {c:Addr} {kvs:List (D×D)} {k d:D} {vk:Value}
theorem zBP {P:Addr→Prop} {h:Heap} {v:Value} {k:D} (r:RdW P h v k) (hk:zAe k=true): ∃a,v= .ref a:=by
 obtain ⟨l,rfl,_⟩:=zBQ hk
 obtain ⟨a,_,_,rfl,_⟩:=r.tupInv
 exact ⟨a,rfl⟩
theorem zKQ (hu:A.units + 62 < cLine):(zHY prog w).room A.in1:=by show A.units + 1 + 8 < cLine; lia
theorem zIX {Q:Value→Shared→Prop} (hu:A.units + 62 < cLine) (T:TD w P s.heap c kvs) (r:RdW P s.heap vk k) (hk:zAe k=true) (e:zBt k kvs=some d)
  (hQ: ∀v s',Keeps s s'→RdW P s'.heap v d→Q v s'):wpAny (model prog w) A (getItem (.ref c) vk) Q E s:=by
 obtain ⟨a,rfl⟩:=zBP r hk
 obtain ⟨xs,h1,h2⟩:=T
 obtain ⟨p,hp,_,rv⟩:=zBg hk h2 e
 exact wpAny_getItem_heap (zKQ hu) (⟨r.toF,hk⟩:zHq s.heap k a) (h1 prog) hp (hQ _ _ (Keeps.toks s _) rv)
theorem zMg {x:Str} {v:D} {ss:List (Str×Value)} {h:Heap} (p:Paired (fun (x:Str×Value) (kv:D×D)=>kv.1= .str x.1∧PyData.strOk x.1=true∧RdW P h x.2 kv.2) ss kvs) (e:zBt (.str x) kvs=some v):
  ∃u,valueAt ss x=some u∧RdW P h u v:=by
 induction p with
 | nil=>cases e
 | @cons y kv l m f _ ih=>
  have e:zAA (zBS kv.1 (.str x)) (some kv.2) (zBt (.str x) m)=some v:=e
  rw [f.1] at e
  have e2:zBS (.str y.1) (.str x)=decide (y.1=x):=rfl
  unfold valueAt at ih ⊢
  rw [e2] at e
  rw [List.find?_cons]
  by_cases hy:y.1=x
  ·rw [decide_eq_true hy] at e ⊢
   cases e
   exact ⟨y.2,rfl,f.2.2⟩
  ·rw [decide_eq_false hy] at e ⊢
   exact ih e
theorem zIf {Q:Value→Shared→Prop} {x:Str} (S:SD w P s.heap c kvs) (r:RdW P s.heap vk (.str x)) (e:zBt (.str x) kvs=some d)
  (hQ: ∀v s',Keeps s s'→RdW P s'.heap v d→Q v s'):wpAny (model prog w) A (getItem (.ref c) vk) Q E s:=by
 obtain ⟨t,rfl⟩:=r.strInv
 obtain ⟨ss,h1,h2⟩:=S
 obtain ⟨u,hv,ru⟩:=zMg h2 e
 exact wpAny_getItem_of (knd:=PySem.strKind prog w) (k:=x) (by simp [PySem.strKind,Value.isStrOf]) (h1 prog).mapOf hv (hQ _ _ (Keeps.toks s _) ru)
theorem zGk {k v:D} (e:zBt k kvs=some v): ∃kv∈kvs,zBS kv.1 k=true:=by
 induction kvs with
 | nil=>cases e
 | cons kv m ih=>
  have e:zAA (zBS kv.1 k) (some kv.2) (zBt k m)=some v:=e
  cases q:zBS kv.1 k with
  | true=>exact ⟨kv,List.mem_cons_self,q⟩
  | false=>rw [q] at e; obtain ⟨x,hx,q⟩:=ih e; exact ⟨x,List.mem_cons_of_mem _ hx,q⟩
theorem zPo {α β:Type} {F:α→β→Prop} {l:List α} {m:List β} (x:Paired F l m) {b:β} (hb:b∈m): ∃a∈l,F a b:=by
 induction x with
 | nil=>simp at hb
 | cons f _ ih=>
  rcases List.mem_cons.mp hb with rfl | hb
  ·exact ⟨_,List.mem_cons_self,f⟩
  ·obtain ⟨b,hb,hf⟩:=ih hb; exact ⟨b,List.mem_cons_of_mem _ hb,hf⟩
theorem zKR {k:D} (h:zMB k=true):(∃x,k= .str x)∨zAe k=true:=by
 induction k using PyData.casesOn with
 | str x=>exact .inl ⟨x,rfl⟩
 | tuple l=>exact .inr h
 | _=>cases h
theorem zGq {Q:Value→Shared→Prop} (hu:A.units + 62 < cLine) (T:zAc w P s.heap c kvs) (r:RdW P s.heap vk k) (hk:zMB k=true) (e:zBt k kvs=some d)
  (hQ: ∀v s',Keeps s s'→RdW P s'.heap v d→Q v s'):wpAny (model prog w) A (getItem (.ref c) vk) Q E s:=by
 rcases zKR hk with ⟨x,rfl⟩ | hk
 ·rcases T.2 with S | T
  ·exact zIf S r e hQ
  ·obtain ⟨kv,hm,q⟩:=zGk e
   obtain ⟨xs,_,h2⟩:=T
   obtain ⟨y,_,f⟩:=zPo h2 hm
   obtain ⟨l,hl,_⟩:=zBQ f.2.2.1
   rw [f.1,hl] at q; cases q
 ·rcases T.2 with S | T
  ·obtain ⟨kv,hm,q⟩:=zGk e
   obtain ⟨xs,_,h2⟩:=S
   obtain ⟨y,_,f⟩:=zPo h2 hm
   obtain ⟨l,rfl,_⟩:=zBQ hk
   rw [f.1] at q; cases q
  ·exact zIX hu T r hk e hQ
theorem zMt {Q:Value→Shared→Prop} (hu:A.units + 62 < cLine) (T:zAc w P s.heap c kvs) (ht:zEq kvs=true) (r:RdW P s.heap vk k) (hk:zAe k=true)
  (hQ: ∀s',Keeps s s'→Q (.bool (zNb k kvs)) s'):wpAny (model prog w) A (compareOp .In vk (.ref c)) Q E s:=by
 obtain ⟨a,rfl⟩:=zBP r hk
 obtain ⟨xs,h1,h2⟩:=T.tup ht
 refine wpAny_in_heap (zKQ hu) (⟨r.toF,hk⟩:zHq s.heap k a) T.1 (h1 prog) ?_
 rw [zDg hk h2]
 exact hQ _ (Keeps.toks s _)
theorem zHl {Q:Value→Shared→Prop} (hu:A.units + 62 < cLine) (T:zAc w P s.heap c kvs) (ht:zEq kvs=true) (r:RdW P s.heap vk k) (hk:zAe k=true)
  (hQ: ∀s',Keeps s s'→Q (.bool (!(zNb k kvs))) s'):wpAny (model prog w) A (compareOp .NotIn vk (.ref c)) Q E s:=by
 obtain ⟨a,rfl⟩:=zBP r hk
 obtain ⟨xs,h1,h2⟩:=T.tup ht
 refine wpAny_notIn_heap (zKQ hu) (⟨r.toF,hk⟩:zHq s.heap k a) T.1 (h1 prog) ?_
 rw [zDg hk h2]
 exact hQ _ (Keeps.toks s _)
theorem zKm {Q:Value→Shared→Prop} {ve:Value} {e:D} (hu:A.units + 62 < cLine) (T:zAc w P s.heap c kvs) (ht:zEq kvs=true) (r:RdW P s.heap vk k) (hk:zAe k=true) (re:RdW P s.heap ve e)
  (hd:Option.rec (motive:=fun V=>Option D) (some e) some (zBt k kvs)=some d)
  (hQ: ∀v s',Keeps s s'→RdW P s'.heap v d→Q v s'):wpAny (model prog w) A (PySem.call (.builtin "dict.get") [.ref c,vk,ve]) Q E s:=by
 obtain ⟨a,rfl⟩:=zBP r hk
 obtain ⟨xs,h1,h2⟩:=T.tup ht
 refine call_meetsIn F.slot_dict_get (h1 prog).typeIs F.entry_dict_get (F.args_dict_get_3 _ _ _) (meetsH_dict_get_default (zHY prog w) c a T.1 ve) ⟨zKQ hu,k,xs,(⟨r.toF,hk⟩:zHq s.heap k a),h1 prog,hQ _ _ (Keeps.toks s _) ?_⟩
 cases q:zBt k kvs with
 | none=>
  rw [q] at hd; cases hd
  rw [zCy hk h2 q]; exact re
 | some v=>
  rw [q] at hd; cases hd
  obtain ⟨p,hp,_,rv⟩:=zBg hk h2 q
  rw [hp]; exact rv
open Classical in
theorem zMr {Q:Unit→Shared→Prop} {vv:Value} (hu:A.units + 62 < cLine) (T:zAc w P s.heap c kvs) (ht:zEq kvs=true) (hs:kvs.length≤100000) (hP:P c) (r:RdW P s.heap vk k) (hk:zAe k=true) (rv:RdW P s.heap vv d)
  (hQ: ∀h' tk,zAc w P h' c (zEi k d kvs)→Heap.SameBut c s.heap h'→Q () {s with heap:=h',toks:=tk}):wpAny (model prog w) A (setItem (.ref c) vk vv) Q E s:=by
 obtain ⟨a,rfl⟩:=zBP r hk
 obtain ⟨xs,h1,h2⟩:=T.tup ht
 have hl:=h2.length
 refine wpAny_setItem_heap (knd:=zHY prog w) (hsz:=by rw [hl,sizeLine_eq]; lia) (zKQ hu) (⟨r.toF,hk⟩:zHq s.heap k a) (h1 prog) fun h' hm hs=>hQ h' _ ⟨T.1, .inr ⟨_,fun V=>hm, ?_⟩⟩ hs
 have hn:(xs.map (·.1)).Nodup:=by obtain ⟨_,_,_,_,_,_,_,_,hn⟩:=h1 prog; exact hn
 have st: ∀{v:Value} {x:D},RdW P s.heap v x→RdW P h' v x:=fun y=>y.step (fun b o nb e=>(hs.2 b fun q=>nb (q▸hP)).trans e) fun V V V e=>e
 exact zLJ (zOL (av:=a) hk hn h2 r rv) fun V V f=>⟨f.1,st f.2.1,f.2.2.1,st f.2.2.2⟩
end
section
open Classical
variable {prog:Program} {w:World} {A:Around} {E:Value→Shared→Prop} {s:Shared} {P:Addr→Prop} {c:Addr} {kvs:List (D×D)} {k d:D} {vk:Value}
theorem zPq {h:Heap} {xs:List (D×Addr×Value)} {j:Nat} {p:Addr×Value} (hk:zAe k=true) (hn:(xs.map (·.1)).Nodup) (x:Paired (zCn P h) xs kvs) (e:xs[j]? =some (k,p)):Paired (zCn P h) (xs.eraseIdx j) (zKo k kvs):=by
 induction x generalizing j with
 | nil=>simp at e
 | @cons y kv l m f fm ih=>
  rw [List.map_cons,List.nodup_cons] at hn
  show Paired (zCn P h) _ (zAA (zBS kv.1 k) m (kv :: zKo k m))
  rw [f.1]
  induction j with
  | zero=>
   simp only [List.getElem?_cons_zero,Option.some.injEq] at e
   subst e
   rw [(zBU f.2.2.1 hk).mpr rfl,zAJ]
   simpa using fm
  | succ j=>
   simp only [List.getElem?_cons_succ] at e
   have hmem:k∈l.map (·.1):=List.mem_map.mpr ⟨(k,p),List.mem_of_getElem? e,rfl⟩
   have hne:zBS y.1 k=false:=by
    cases q:zBS y.1 k with
    | false=>rfl
    | true=>exact absurd ((zBU f.2.2.1 hk).mp q▸hmem) hn.1
   rw [hne,zAF]
   exact .cons f (ih hn.2 e)
theorem zOl {h:Heap} {xs:List (D×Addr×Value)} {p:Addr×Value} (hk:zAe k=true) (x:Paired (zCn P h) xs kvs) (e:atKey xs k=some p): ∃v,zBt k kvs=some v∧RdW P h p.2 v:=by
 cases q:zBt k kvs with
 | none=>rw [zCy hk x q] at e; cases e
 | some v=>
  obtain ⟨p',hp,_,r⟩:=zBg hk x q
  rw [hp] at e; cases e
  exact ⟨v,rfl,r⟩
theorem zHd {h:Heap} {xs:List (D×Addr×Value)} (hk:zAe k=true) (x:Paired (zCn P h) xs kvs) (e:atKey xs k=none):zBt k kvs=none:=by
 cases q:zBt k kvs with
 | none=>rfl
 | some v=>obtain ⟨p',hp,_⟩:=zBg hk x q; rw [hp] at e; cases e
theorem zIQ {α β:Type} (f:α→β): ∀(l:List α) (j:Nat),(l.map f).eraseIdx j=(l.eraseIdx j).map f
 | [],_=>by simp
 | _ :: _,0=>by simp
 | a :: l,j + 1=>by simp [zIQ f l j]
theorem zKn (e:zBt k kvs=none):zKo k kvs=kvs:=by
 induction kvs with
 | nil=>rfl
 | cons kv m ih=>
  have e:zAA (zBS kv.1 k) (some kv.2) (zBt k m)=none:=e
  show zAA (zBS kv.1 k) m (kv :: zKo k m)=_
  cases q:zBS kv.1 k with
  | true=>rw [q] at e; cases e
  | false=>rw [q,zAF] at e; rw [zAF,ih e]
theorem zGD {Q:Option DictEntry→Shared→Prop} (hu:A.units + 9 < cLine) (T:zAc w P s.heap c kvs) (ht:zEq kvs=true) (hs:kvs.length≤100000) (hP:P c) (r:RdW P s.heap vk k) (hk:zAe k=true)
  (hnone: ∀tk,zBt k kvs=none→Q none {s with toks:=tk})
  (hsome: ∀e v h' tk,zBt k kvs=some v→RdW P h' e.val v→zAc w P h' c (zKo k kvs)→Heap.SameBut c s.heap h'→Q (some e) {s with heap:=h',toks:=tk}):
  wpAny (model prog w) A (Builtin.Dict.takeOut c vk) Q E s:=by
 obtain ⟨a,rfl⟩:=zBP r hk
 obtain ⟨xs,h1,h2⟩:=T.tup ht
 obtain ⟨o,es,ep,ho,hc,hd,he,his,hn⟩:=h1 prog
 have hsz:es.size≤sizeLine:=by rw [size_of_entries he,h2.length,sizeLine_eq]; lia
 have hki:zHq s.heap k a:=⟨r.toF,hk⟩
 unfold Builtin.Dict.takeOut
 try with_reducible refine wpAny_holding ?_
 refine wpAny_bind ((zHY prog w).pyHash (show A.units + 8 < cLine by lia) hki (wpAny_bind (wpAny_dictFind_heap (knd:=zHY prog w) (s:={s with toks:=s.toks + zCD k}) (show A.units + 8 < cLine by lia) hki ho hd he his hn ?_ ?_)))
 ·intro hno
  exact wpAny_pure (hnone _ (zHd hk h2 (atKey_none_of_get hno)))
 ·intro j p hj
  refine wpAny_bind (wpAny_dictEntries (s:={s with toks:=s.toks + zCD k}) ho hd ?_)
  rw [entry_at he j,hj]
  obtain ⟨v,hv,rv⟩:=zOl hk h2 (atKey_of_get hn hj)
  refine wpAny_bind (wpAny_updateDictKeys (hz:=hsz) (s:={s with toks:=s.toks + zCD k}) ho hd (wpAny_pure ?_))
  have hsb:Heap.SameBut c s.heap (s.heap.update c (Obj.mapDictKeys fun x=>x.eraseIdxIfInBounds j)):=Heap.SameBut.update ..
  have st: ∀{v:Value} {x:D},RdW P s.heap v x→RdW P (s.heap.update c (Obj.mapDictKeys fun x=>x.eraseIdxIfInBounds j)) v x:=fun y=>y.step (fun b o nb e=>(hsb.2 b fun q=>nb (q▸hP)).trans e) fun V V V e=>e
  have h3:Paired (zCn P (s.heap.update c (Obj.mapDictKeys fun x=>x.eraseIdxIfInBounds j))) (xs.eraseIdx j) (zKo k kvs):=zLJ (zPq hk hn h2 hj) fun V V f=>⟨f.1,st f.2.1,f.2.2.1,st f.2.2.2⟩
  refine hsome _ v _ _ hv (st rv) ⟨T.1, .inr ⟨xs.eraseIdx j,fun V=>⟨_,_,ep + 1,Heap.get?_update_self _ ho (Obj.isFreed_of_dict (Obj.data_mapDictKeys hd _)),hc.mapDictKeys _,Obj.data_mapDictKeys hd _, ?_, ?_, ?_⟩,h3⟩⟩ hsb
  ·show (es.eraseIdxIfInBounds j).toList=(xs.eraseIdx j).map (entryOfKey (zHY prog w))
   have:(es.eraseIdxIfInBounds j).toList=es.toList.eraseIdx j:=by obtain ⟨l⟩:=es; simp
   rw [this,he]
   exact zIQ _ _ _
  ·intro x hx
   obtain ⟨kv,_,f⟩:=pMem h3 hx
   exact ⟨f.2.1.toF,f.2.2.1⟩
  ·exact ((List.eraseIdx_sublist xs j).map _).nodup hn
theorem zMs {Q:Value→Shared→Prop} {ve:Value} {e:D} (hu:A.units + 62 < cLine) (T:zAc w P s.heap c kvs) (ht:zEq kvs=true) (hs:kvs.length≤100000) (hP:P c) (r:RdW P s.heap vk k) (hk:zAe k=true) (re:RdW P s.heap ve e)
  (hQ: ∀v h' tk,RdW P h' v (Option.rec (motive:=fun V=>D) e (fun d=>d) (zBt k kvs))→zAc w P h' c (zKo k kvs)→Heap.SameBut c s.heap h'→Q v {s with heap:=h',toks:=tk}):
  wpAny (model prog w) A (PySem.call (.builtin "dict.pop") [.ref c,vk,ve]) Q E s:=by
 obtain ⟨a,rfl⟩:=zBP r hk
 obtain ⟨o,es,ep,ho,hc,hd,hes⟩:=T.at
 have hT:s.TypeIs (.ref c) "dict":=⟨o,ho,hc.1⟩
 refine wpAny_call_entry F.slot_dict_pop hT F.entry_dict_pop ?_ (F.args_dict_pop_3 _ _ _)
 unfold Builtin.«dict.pop»
 refine wpAny_bind ?_
 unfold Builtin.Dict.keyAndDefault
 refine wpAny_bind (wpAny_notOrdered_dict hT ?_)
 show wpAny _ _ (pure (c,Value.ref a,some ve)) _ _ s
 refine wpAny_pure ?_
 simp only [show (keyPart (Value.ref a)).isSome=false from rfl,Bool.false_eq_true,if_false]
 refine wpAny_bind (wpAny_dictEntries ho hd (wpAny_bind (wpAny_pure ?_)))
 have absent: ∀tk,zBt k kvs=none→Q ve {s with toks:=tk}:=fun tk hg=>by
  have:=hQ ve s.heap tk (by rw [hg]; exact re) (by rw [zKn hg]; exact T) (Heap.SameBut.refl ..)
  exact this
 by_cases hem:es.isEmpty=true
 ·simp only [hem,if_true]
  refine wpAny_bind (wpAny_rule (wpAny_bind (wpAny_pure ?_)))
  simp only [Option.isNone_none,if_true]
  refine wpAny_bind (wpAny_missedRemoval_other T.1 ?_)
  refine wpAny_bind (wpAny_rule (wpAny_pure ⟨ve,rfl, ?_⟩))
  have hk0:kvs=[]:=by
   have:es.size=0:=by simpa using hem
   rw [hes] at this
   exact List.eq_nil_of_length_eq_zero this
  exact absent s.toks (by rw [hk0]; rfl)
 ·simp only [hem,Bool.false_eq_true,if_false]
  refine wpAny_bind (zGD (A:=A.in1) (by show A.units + 1 + 9 < cLine; lia) T ht hs hP r hk (fun tk hg=> ?_) fun en v h' tk hg rv T' hs'=> ?_)
  ·simp only [Option.isNone_none,if_true]
   refine wpAny_bind (wpAny_missedRemoval_other T.1 ?_)
   exact wpAny_bind (wpAny_rule (wpAny_pure ⟨ve,rfl,absent tk hg⟩))
  ·simp only [Option.isNone_some,Bool.false_eq_true,if_false]
   refine wpAny_bind (wpAny_letGo (wpAny_pure ⟨en.val,rfl,hQ _ _ _ ?_ T' hs'⟩))
   rw [hg]; exact rv
end
section
open Classical
variable {prog:Program} {w:World} {A:Around} {E:Value→Shared→Prop} {s:Shared} {P:Addr→Prop} {c:Addr} {kvs:List (D×D)}
theorem zJG {o:Obj} {es:Array DictEntry} {ep:Nat} {Q:Value→Shared→Prop} (ho:s.heap.get? c=some o) (hc:o.ExactDict) (hS:(c==sysModules)=false)
  (h:Q (.ref s.heap.objs.size) {s with heap:=s.heap.push {cls:= .type "dict_items",data:= .fields #[.ref c]}}):
  wpAny (model prog w) A (PySem.call (.builtin "dict.items") [.ref c]) Q E s:=by
 have hT:s.TypeIs (.ref c) "dict":=⟨o,ho,hc.1⟩
 refine wpAny_call_entry F.slot_dict_items hT F.entry_dict_items ?_ (F.args_dict_items_1 _)
 unfold Builtin.«dict.items»
 refine wpAny_bind ?_
 unfold Builtin.Dict.noArgs
 refine wpAny_bind (wpAny_notOrdered_dict hT ?_)
 show wpAny _ _ (pure c) _ _ s
 refine wpAny_pure ?_
 show wpAny _ _ (Builtin.Dict.showsAll c >>= _) _ _ s
 unfold Builtin.Dict.showsAll
 rw [if_neg (by rw [hS]; exact Bool.false_ne_true)]
 refine wpAny_bind (wpAny_pure ?_)
 exact wpAny_bind (wpAny_newObj_type (wpAny_pure ⟨_,rfl,h⟩))
theorem zIv {v:Addr} {o:Obj} {es:Array DictEntry} {ep:Nat} {Q:Value→Shared→Prop} (hv:s.heap.IsItemsView v c) (ho:s.heap.get? c=some o) (hd:o.data= .dict es ep)
  (hQ:Q (.ref s.heap.objs.size) {s with heap:=s.heap.push {cls:= .type "dict_itemiterator",data:= .fields #[.none, .bool false, .ref c, .int 0 0, .int es.size 0, .int ep 0, .none, .none]}}):
  wpAny (model prog w) A (pyIter (.ref v)) Q E s:=by
 obtain ⟨ov,hov,hcv,hdv⟩:=id hv
 refine wpAny_pyIter_slot hv.typeIs F.slot_dict_items_iter (wpAny_call_entry F.slot_dict_items_iter hv.typeIs F.entry_dict_items_iter ?_ (F.args_dict_items_iter_1 _))
 unfold Builtin.«dict_items.__iter__»
 refine wpAny_bind (wpAny_pure ?_)
 refine wpAny_bind ?_
 unfold Builtin.Dict_items.dictOf
 refine wpAny_bind (wpAny_field hov hdv (x:= .ref c) rfl (wpAny_pure ?_))
 refine wpAny_bind ?_
 unfold Builtin.Dict_items.newIterator
 refine wpAny_bind (wpAny_dictEntries ho hd ?_)
 refine wpAny_bind (wpAny_dictEpoch ho hd ?_)
 have hown:Builtin.Dict_items.ownsTuple "dict_itemiterator"=true:=by decide
 simp only [hown,if_true]
 refine wpAny_newObj_type (wpAny_pure ⟨_,rfl,"dict_itemiterator",_,⟨_,Heap.get?_push_size _ rfl,rfl⟩,F.slot_dict_itemiterator_next.lookup, ?_⟩)
  (by simp only [sizeOk,Builtin.Dict_items.ownedTupleFields,List.size_toArray,List.length_append,List.length_cons,List.length_nil,sizeLine_eq]; lia)
 simpa [rawInt,Builtin.Dict_items.ownedTupleFields] using hQ
theorem zIk {it d:Addr} {i ep:Nat} {od:Obj} {es:Array DictEntry} {en:DictEntry} {ok ov:Value} {Q:Option Value→Shared→Prop} (hit:IsItemIter s.heap it d i es.size ep ok ov)
  (hod:s.heap.get? d=some od) (hdd:od.data= .dict es ep) (hx:es[i]? =some en)
  (hQ: ∀h',IsItemIterOut h' it d (i + 1) es.size ep en.key en.val s.heap.objs.size→
   h'.get? s.heap.objs.size=some {cls:= .type "tuple",data:= .seq #[en.key,en.val]}→
   (∀b o,b≠it→s.heap.get? b=some o→h'.get? b=some o)→Q (some (.ref s.heap.objs.size)) {s with heap:=h'}):
  wpAny (model prog w) A (pyNext (.ref it)) Q E s:=by
 obtain ⟨hp,g,dr,tk,os⟩:=s
 have hT:Shared.TypeIs ⟨hp,g,dr,tk,os⟩ (.ref it) "dict_itemiterator":=⟨_,hit,rfl⟩
 unfold pyNext
 refine wpAny_bind (wpAny_attempt (wpAny_callSpecial?_slot (name:=Str.ofString "__next__") hT F.slot_dict_itemiterator_next
  (wpAny_call_entry F.slot_dict_itemiterator_next hT F.entry_dict_itemiterator_next ?_ (F.args_dict_itemiterator_next_1 _))))
 refine wpAny_bind (wpAny_pure ?_)
 refine wpAny_bind ?_
 refine wpAny_bind ?_
 first | refine wpAny_bind (wpAny_typeNameOfWhole_itemiter hT (wpAny_pure ?_)) | refine wpAny_bind (wpAny_typeNameOf_itemiter hT (wpAny_pure ?_))
 refine wpAny_bind (wpAny_fieldsOf hit rfl ?_)
 have hown:Builtin.Dict_items.ownsTuple "dict_itemiterator"=true:=by decide
 rw [if_pos hown]
 show wpAny _ _ (if (Value.ref d==Value.none)=true then _ else _) _ _ _
 rw [if_neg (show ¬((Value.ref d==Value.none)=true) from Bool.false_ne_true)]
 refine wpAny_bind (wpAny_pure ?_)
 refine wpAny_bind (wpAny_dictEntries hod hdd ?_)
 rw [if_neg (by simp)]
 refine wpAny_bind (wpAny_pure ?_)
 refine wpAny_bind (wpAny_dictEpoch hod hdd ?_)
 rw [if_neg (by simp)]
 refine wpAny_pure ?_
 dsimp only
 rw [show (if (i:Int) < 0 then none else es[(i:Int).toNat]?)=es[i]? from if_neg (by lia),hx]
 refine wpAny_bind ?_
 first | refine wpAny_bind (wpAny_typeNameOfWhole_itemiter hT (wpAny_pure ?_)) | refine wpAny_bind (wpAny_typeNameOf_itemiter hT (wpAny_pure ?_))
 refine wpAny_bind (wpAny_isOneOf_itemiter hT ?_)
 show wpAny _ _ (setField (.ref it) 3 (rawInt ((i:Int) + 1)) >>= _) _ _ ⟨hp,g,dr,tk,os⟩
 refine wpAny_bind (wpAny_setField_rec hit (by simp) fun h₁ he₁ hs₁=> ?_)
 replace hs₁:Heap.SameBut it hp h₁:=hs₁
 replace he₁:IsItemIter h₁ it d (i + 1) es.size ep ok ov:=by
  have e:((i + 1:Nat):Int)=(i:Int) + 1:=by lia
  unfold IsItemIter; rw [e]; simpa [rawInt] using he₁
 have hT₁:Shared.TypeIs ⟨h₁,g,dr,tk,os⟩ (.ref it) "dict_itemiterator":=⟨_,he₁,rfl⟩
 refine wpAny_bind (wpAny_holding ?_)
 refine wpAny_bind (wpAny_isOneOf_itemiter hT₁ ?_)
 refine wpAny_bind (wpAny_isOneOf_itemiter hT₁ ?_)
 show wpAny _ _ (Builtin.Dict_items.pairFromOwner (.ref it) 6 en.key en.val) _ _ ⟨h₁,g,dr,tk,os⟩
 unfold Builtin.Dict_items.pairFromOwner
 refine wpAny_bind (wpAny_newTuple ?_)
 have he₂:IsItemIter (h₁.push {cls:= .type "tuple",data:= .seq #[en.key,en.val]}) it d (i + 1) es.size ep ok ov:=Heap.get?_push_of_some _ he₁
 generalize hh₂:h₁.push {cls:= .type "tuple",data:= .seq #[en.key,en.val]}=h₂ at he₂
 have hz₁:h₁.objs.size=hp.objs.size:=hs₁.1
 have hil:it < hp.objs.size:=Heap.lt_size hit
 have ht₂:h₂.get? hp.objs.size=some {cls:= .type "tuple",data:= .seq #[en.key,en.val]}:=by rw [←hh₂, ←hz₁]; exact Heap.get?_push_size _ rfl
 have hk₂: ∀b o,b≠it→hp.get? b=some o→h₂.get? b=some o:=fun b o hb e=>by rw [←hh₂]; exact Heap.get?_push_of_some _ (hs₁.extBut b o hb e)
 show wpAny _ _ (Builtin.Dict_items.ownedTupleIsFree (.ref it) >>= _) _ _ ⟨h₂,g,dr,tk,os⟩
 rw [hz₁]
 clear hh₂ he₁ hs₁ hT₁ hz₁ h₁
 refine wpAny_bind ?_
 unfold Builtin.Dict_items.ownedTupleIsFree
 refine wpAny_bind (wpAny_field he₂ rfl (x:= .none) rfl (wpAny_pure ?_))
 simp only [if_true]
 refine wpAny_bind (wpAny_field he₂ rfl (x:=ok) rfl ?_)
 refine wpAny_bind (wpAny_field he₂ rfl (x:=ov) rfl ?_)
 refine wpAny_bind (wpAny_setField_rec he₂ (by simp) fun h₃ he₃ hs₃=> ?_)
 replace hs₃:Heap.SameBut it h₂ h₃:=hs₃
 replace he₃:IsItemIter h₃ it d (i + 1) es.size ep en.key ov:=he₃
 refine wpAny_bind (wpAny_setField_rec he₃ (by simp) fun h₄ he₄ hs₄=> ?_)
 replace hs₄:Heap.SameBut it h₃ h₄:=hs₄
 replace he₄:IsItemIter h₄ it d (i + 1) es.size ep en.key en.val:=he₄
 refine wpAny_bind (wpAny_setField_rec he₄ (by simp) fun h₅ he₅ hs₅=> ?_)
 replace hs₅:Heap.SameBut it h₄ h₅:=hs₅
 replace he₅:IsItemIterOut h₅ it d (i + 1) es.size ep en.key en.val hp.objs.size:=he₅
 refine wpAny_bind (wpAny_setField_rec he₅ (by simp) fun h₆ he₆ hs₆=> ?_)
 replace hs₆:Heap.SameBut it h₅ h₆:=hs₆
 replace he₆:IsItemIterOut h₆ it d (i + 1) es.size ep en.key en.val hp.objs.size:=he₆
 refine wpAny_bind (wpAny_letGo (wpAny_pure (wpAny_pure ⟨_,rfl,wpAny_pure (hQ h₆ he₆ ?_ ?_)⟩)))
 ·exact hs₆.extBut _ _ (Nat.ne_of_gt hil) (hs₅.extBut _ _ (Nat.ne_of_gt hil) (hs₄.extBut _ _ (Nat.ne_of_gt hil) (hs₃.extBut _ _ (Nat.ne_of_gt hil) ht₂)))
 ·exact fun b o hb e=>hs₆.extBut b o hb (hs₅.extBut b o hb (hs₄.extBut b o hb (hs₃.extBut b o hb (hk₂ b o hb e))))
theorem zKl {it d:Addr} {i ep:Nat} {od:Obj} {es:Array DictEntry} {ok ov:Value} {Q:Option Value→Shared→Prop} (hh:zAG A s.heap) (hit:IsItemIter s.heap it d i es.size ep ok ov)
  (hod:s.heap.get? d=some od) (hdd:od.data= .dict es ep) (hx:es[i]? =none)
  (hQ: ∀h',Heap.ExtBut it s.heap h'→Q none {s with heap:=h'}):wpAny (model prog w) A (pyNext (.ref it)) Q E s:=by
 have hT:s.TypeIs (.ref it) "dict_itemiterator":=⟨_,hit,rfl⟩
 unfold pyNext
 refine wpAny_bind (wpAny_attempt (wpAny_callSpecial?_slot (name:=Str.ofString "__next__") hT F.slot_dict_itemiterator_next
  (wpAny_call_entry F.slot_dict_itemiterator_next hT F.entry_dict_itemiterator_next ?_ (F.args_dict_itemiterator_next_1 _))))
 refine wpAny_bind (wpAny_pure ?_)
 refine wpAny_bind ?_
 refine wpAny_bind ?_
 first | refine wpAny_bind (wpAny_typeNameOfWhole_itemiter hT (wpAny_pure ?_)) | refine wpAny_bind (wpAny_typeNameOf_itemiter hT (wpAny_pure ?_))
 refine wpAny_bind (wpAny_fieldsOf hit rfl ?_)
 have hown:Builtin.Dict_items.ownsTuple "dict_itemiterator"=true:=by decide
 rw [if_pos hown]
 show wpAny _ _ (if (Value.ref d==Value.none)=true then _ else _) _ _ s
 rw [if_neg (show ¬((Value.ref d==Value.none)=true) from Bool.false_ne_true)]
 refine wpAny_bind (wpAny_pure ?_)
 refine wpAny_bind (wpAny_dictEntries hod hdd ?_)
 rw [if_neg (by simp)]
 refine wpAny_bind (wpAny_pure ?_)
 refine wpAny_bind (wpAny_dictEpoch hod hdd ?_)
 rw [if_neg (by simp)]
 refine wpAny_pure ?_
 dsimp only
 rw [show (if (i:Int) < 0 then none else es[(i:Int).toNat]?)=es[i]? from if_neg (by lia),hx]
 refine wpAny_bind ?_
 first | refine wpAny_bind (wpAny_typeNameOfWhole_itemiter hT (wpAny_pure ?_)) | refine wpAny_bind (wpAny_typeNameOf_itemiter hT (wpAny_pure ?_))
 show wpAny _ _ (setField (.ref it) 2 .none >>= _) _ _ s
 refine wpAny_bind (wpAny_setField hit rfl (by simp) ?_)
 refine zAS (hh.but rfl hit rfl (by simp) (Heap.SameBut.update ..)) fun e h' hk hx=> ?_
 refine wpAny_bind (wpAny_isInstance (T:="StopIteration") (b:=true) hx isSubtype_stop ?_)
 exact wpAny_pure (hQ _ fun b o hb x=>hk b o ((Heap.SameBut.update ..).extBut b o hb x))
def zPM (P:Addr→Prop) (h:Heap) (es:Array DictEntry) (kvs:List (D×D)):Prop:=Paired (fun (e:DictEntry) (kv:D×D)=>RdW P h e.key kv.1∧RdW P h e.val kv.2) es.toList kvs
theorem pMapL {α β γ:Type} {F:β→γ→Prop} (f:α→β) {l:List α} {m:List γ} (x:Paired (fun a c=>F (f a) c) l m):Paired F (l.map f) m:=by
 induction x with
 | nil=>exact .nil
 | cons a _ ih=>exact .cons a ih
theorem TD.ents {h:Heap} (T:TD w P h c kvs): ∃o es ep,h.get? c=some o∧o.ExactDict∧o.data= .dict es ep∧zPM P h es kvs:=by
 obtain ⟨xs,h1,h2⟩:=T
 obtain ⟨o,es,ep,ho,hc,hd,he,_,_⟩:=h1 default
 refine ⟨o,es,ep,ho,hc,hd, ?_⟩
 unfold zPM
 rw [he]
 exact pMapL _ (zLJ h2 fun V V f=>⟨f.1▸f.2.1,f.2.2.2⟩)
theorem zPp {α β:Type} {F:α→β→Prop}: ∀{l:List α} {m:List β} {i:Nat} {b:β},Paired F l m→m[i]? =some b→∃a,l[i]? =some a∧F a b
 | _,_,_,_, .nil,e=>by simp at e
 | _,_,0,_, .cons f _,e=>by simp at e; subst e; exact ⟨_,by simp,f⟩
 | _,_,i + 1,_, .cons _ t,e=>by simp at e; obtain ⟨a,h1,h2⟩:=zPp t e; exact ⟨a,by simpa using h1,h2⟩
def zLE (I c:Addr) (o:Obj) (es:Array DictEntry) (ep:Nat) (kvs:List (D×D)) (i:Nat) (P:Addr→Prop) (h:Heap):Prop:=
 P I∧I≠c∧(∃ok ov,IsItemIter h I c i es.size ep ok ov)∧h.get? c=some o∧zPM P h es kvs
noncomputable def zGb (kvs:List (D×D)):List D:=zLL (fun p=>PyData.tuple [p.1,p.2]) kvs
theorem zPM.step {P':Addr→Prop} {h h':Heap} {es:Array DictEntry} (x:zPM P h es kvs) (hk: ∀a o,¬P a→h.get? a=some o→h'.get? a=some o) (hw: ∀a o,h.get? a=some o→P' a→P a):zPM P' h' es kvs:=
 zLJ x fun V V f=>⟨f.1.step hk hw,f.2.step hk hw⟩
theorem zCl:entryFor table "dict_itemiterator.__iter__"=some Builtin.«dict_keyiterator.__iter__» :=
 entryFor_alias (id':="dict_keyiterator.__iter__") (by kernel_rfl) rfl (by decide +kernel) (by kernel_rfl)
theorem Wk.items {I:Addr} {o:Obj} {es:Array DictEntry} {ep:Nat} {elts:List Expr} {x1:Nat} {pos:Pos} (hd:o.data= .dict es ep):
  Wk prog w A (.Tuple elts x1 pos) I (· =I) (· =c) (zGb kvs) (zLE I c o es ep kvs) where
 item:=fun i d P s Q E hdi hal ⟨hI,hne,⟨ok,ov,h1⟩,h2,h3⟩ hQ=>by
  have hm:(kvs.map fun p=>PyData.tuple [p.1,p.2])[i]? =some d:=by rw [←zKK]; exact hdi
  rw [List.getElem?_map] at hm
  obtain ⟨kv,hkv,rfl⟩:=Option.map_eq_some_iff.mp hm
  obtain ⟨en,he,f⟩:=zPp h3 hkv
  refine zIk h1 h2 hd (en:=en) (by simpa using he) fun h' heo ht hk=> ?_
  refine wpAny_letOwnedTupleGo_items heo fun h'' he'' hs=> ?_
  have hn: ¬P s.heap.objs.size:=fun x=>by
   obtain ⟨o,ho⟩:=hal _ x
   exact absurd (Heap.lt_size ho) (Nat.lt_irrefl _)
  have hnI:s.heap.objs.size≠I:=fun x=>hn (x▸hI)
  have kb:zAC (· =I) s {s with heap:=h''}:=⟨h'',_,rfl,fun a o na e=>hs.extBut a o na (hk a o na e)⟩
  have hP: ∀a,a=I→P a:=fun a e=>e▸hI
  have st: ∀{v:Value} {x:D},RdW P s.heap v x→RdW P h'' v x:=fun y=>y.keepBut (s':={s with heap:=h''}) kb hP
  refine hQ _ _ kb (.tuple (vs:= #[en.key,en.val]) (n:=0) (hs.extBut _ _ hnI ht) hn (.cons (st f.1) (.cons (st f.2) .nil))) ⟨hI,hne,⟨_,_,he''⟩, ?_,zLJ h3 fun V V g=>⟨st g.1,st g.2⟩⟩
  exact kb.get (s':={s with heap:=h''}) (fun x=>hne x.symm) h2
 done:=fun P s Q E hh ⟨_,_,⟨ok,ov,h1⟩,h2,h3⟩ hQ=>by
  have hl:(zGb kvs).length=es.size:=by unfold zGb; rw [zKK,List.length_map, ←h3.length]; simp
  rw [hl] at h1
  exact zKl hh h1 h2 hd (by simp) fun h' he'=>hQ _ (zAC.ext he' rfl)
 self:=fun i P s Q E ⟨_,_,⟨ok,ov,h1⟩,_⟩ hQ=>by
  have hT:s.TypeIs (.ref I) "dict_itemiterator":=⟨_,h1,rfl⟩
  refine wpAny_pyIter_slot hT F.slot_dict_itemiterator_iter (wpAny_call_entry F.slot_dict_itemiterator_iter hT zCl ?_ (F.args_dict_itemiterator_iter_1 _))
  show wpAny _ _ (ret (.ref I)) _ _ s
  exact wpAny_pure ⟨_,rfl,"dict_itemiterator",_,hT,F.slot_dict_itemiterator_next.lookup,hQ⟩
 frame:=fun i P P' h h' O hOP hO hR hw hP ⟨hI,hne,⟨ok,ov,h1⟩,h2,h3⟩ hk=>⟨hw _ rfl,hne,⟨ok,ov,hk _ _ (fun x=>hO _ x rfl) h1⟩,hk _ _ (fun x=>hR _ x rfl) h2,h3.step (fun a o na e=>hk a o (fun x=>na (hOP _ x)) e) hP⟩
 live:=fun i P h ⟨hI,_,⟨_,_,h1⟩,_⟩ a ha=>by subst ha; exact ⟨hI,_,h1⟩
end
section
variable {w:World}
def zHE (w:World) (P:Addr→Prop) (h:Heap) (v:Value):D→Prop
 | .list xs=>∃a vs n,v= .ref a∧h.get? a=some (zBz vs n)∧zAK P h vs.toList xs
 | .dict kvs=>∃a,v= .ref a∧zAc w P h a kvs
 | _=>False
def PkR (w:World) (P:Addr→Prop) (h:Heap) (v:Value) (d:D):Prop:=RdW P h v d∨zHE w P h v d
def zLG (w:World) (P:Addr→Prop) (h:Heap) (v:Value):Slot→Prop
 | .val d=>RdW P h v d
 | .own d=>zHE w P h v d∧∀a,v= .ref a→P a
def zCY (w:World) (P:Addr→Prop) (s s':Shared) (v:Value):D→Prop
 | .list xs=>∃a vs n,v= .ref a∧s.heap.get? a=none∧s'.heap.get? a=some (zBz vs n)∧zAK (fun x=>P x∨x=a) s'.heap vs.toList xs
 | .dict kvs=>∃a,v= .ref a∧s.heap.get? a=none∧zAc w (fun x=>P x∨x=a) s'.heap a kvs
 | d=>RdW P s'.heap v d
theorem zCY.rdw {P:Addr→Prop} {s s':Shared} {v:Value} {d:D} (x:zCY w P s s' v d) (al: ∀x,P x→∃o,s.heap.get? x=some o) (hd: ∀kvs,d≠ .dict kvs):RdW P s'.heap v d:=by
 induction d using PyData.casesOn with
 | list xs=>
  obtain ⟨a,vs,n,rfl,h0,h1,r⟩:=x
  exact .list h1 (fun p=>by obtain ⟨o,ho⟩:=al _ p; rw [h0] at ho; cases ho) (r.step (fun V V V e=>e) fun V V V p=> .inl p)
 | dict kvs=>exact absurd rfl (hd kvs)
 | _=>exact x
theorem zCY.back {P:Addr→Prop} {s₀ s s':Shared} {v:Value} {d:D} (x:zCY w P s s' v d) (k:Keeps s₀ s):zCY w P s₀ s' v d:=by
 have key: ∀a,s.heap.get? a=none→s₀.heap.get? a=none:=fun a h=>by
  cases e:s₀.heap.get? a with
  | none=>rfl
  | some o=>rw [Keeps.get k e] at h; cases h
 induction d using PyData.casesOn with
 | list xs=>obtain ⟨a,vs,n,e,h0,h1,r⟩:=x; exact ⟨a,vs,n,e,key a h0,h1,r⟩
 | dict kvs=>obtain ⟨a,e,h0,r⟩:=x; exact ⟨a,e,key a h0,r⟩
 | _=>exact x
theorem zHE.keep {P:Addr→Prop} {h h':Heap} {v:Value} {d:D} (x:zHE w P h v d) (hk: ∀a o,h.get? a=some o→h'.get? a=some o):zHE w P h' v d:=by
 induction d using PyData.casesOn with
 | list xs=>obtain ⟨a,vs,n,e,g,r⟩:=x; exact ⟨a,vs,n,e,hk _ _ g,r.keep hk⟩
 | dict kvs=>obtain ⟨a,e,r⟩:=x; exact ⟨a,e,r.keep hk⟩
 | _=>exact x.elim
theorem zLG.keep {P:Addr→Prop} {h h':Heap} {v:Value} {sl:Slot} (x:zLG w P h v sl) (hk: ∀a o,h.get? a=some o→h'.get? a=some o):zLG w P h' v sl:=by
 induction sl with
 | val d=>exact RdW.keep x hk
 | own d=>exact ⟨x.1.keep hk,x.2⟩
theorem PkR.keep {P:Addr→Prop} {h h':Heap} {v:Value} {d:D} (x:PkR w P h v d) (hk: ∀a o,h.get? a=some o→h'.get? a=some o):PkR w P h' v d:=x.imp (·.keep hk) (·.keep hk)
def kN (sc:Scope) (x:Nat):Option NameKind:=sc.names.lookup (nm x)
def Holds (env:Env) (h:Heap) (m:Str→Option Value) (x:Nat) (v:Value):Prop:=
 (kN env.scope x=some .local∧m (nm x)=some v)∨(kN env.scope x=some .cell∧∃c,env.cells.lookup (nm x)=some c∧h.IsCell c (some v))
structure zPL (w:World) (G:Heap) (env:Env) (P:Addr→Prop) (fr:Frm) (s:Shared):Prop where
 glob: ∀a o,G.get? a=some o→s.heap.get? a=some o∧¬P a
 live: ∀a,P a→∃o,s.heap.get? a=some o
 kind:env.scope.kind= .function
 names: ∃m,s.heap.Ns env.locals m∧∀x sl,zAE x fr=some sl→kN env.scope x=some .local∨kN env.scope x=some .cell→∃v,Holds env s.heap m x v∧zLG w P s.heap v sl
 cells: ∀n,env.kindOf n=some .cell→∃c v,env.cells.lookup n=some c∧s.heap.IsCell c v
 cset: ∀n c,env.cells.lookup n=some c→P c
 cinj: ∀m n c,env.cells.lookup m=some c→env.cells.lookup n=some c→m=n
theorem zPL.keeps {G:Heap} {env:Env} {P:Addr→Prop} {fr:Frm} {s s':Shared} (x:zPL w G env P fr s) (hk:Keeps s s'):zPL w G env P fr s' where
 glob:=fun a o e=>⟨Keeps.get hk (x.glob a o e).1,(x.glob a o e).2⟩
 live:=fun a pa=>let ⟨o,e⟩:=x.live a pa; ⟨o,Keeps.get hk e⟩
 kind:=x.kind
 names:=by
  obtain ⟨h',tk,rfl,k⟩:=hk
  obtain ⟨m,hn,hv⟩:=x.names
  refine ⟨m,hn.keeps k,fun y sl e hy=> ?_⟩
  obtain ⟨v,hv,hs⟩:=hv y sl e hy
  refine ⟨v,hv.imp id fun ⟨h1,c,h2,h3⟩=>⟨h1,c,h2,h3.keeps k⟩,hs.keep k⟩
 cells:=by
  obtain ⟨h',tk,rfl,k⟩:=hk
  exact fun n hn=>let ⟨c,v,e,r⟩:=x.cells n hn; ⟨c,v,e,r.keeps k⟩
 cset:=x.cset
 cinj:=x.cinj
end
noncomputable def keyS (s:Str):Nat:=s.cps.toList.foldl (fun a c=>a * 2097152 + c) 0
noncomputable def dup (l:List Nat):Bool:=List.rec (motive:=fun V=>Bool) true (fun a r ih=>List.rec (motive:=fun V=>Bool) ih (fun b V ih=>zAA (Nat.beq a b) false ih) r) l
theorem zEY: ∀l:List Nat,dup l=true→l.Nodup
 | [],_=>List.nodup_nil
 | a :: r,h=>by
  have key: ∀(q:List Nat) (t:Bool),List.rec (motive:=fun V=>Bool) t (fun b V ih=>zAA (Nat.beq a b) false ih) q=true→a ∉ q∧t=true:=by
   intro q t
   induction q with
   | nil=>intro h; exact ⟨by simp,h⟩
   | cons b q ih=>
    intro h
    cases hb:Nat.beq a b with
    | true=>simp only [hb] at h; exact absurd h (fun x=>Bool.noConfusion x)
    | false=>
     simp only [hb] at h
     have:=ih h
     refine ⟨fun hm=> ?_,this.2⟩
     rcases List.mem_cons.mp hm with rfl | hm
     ·simp at hb
     ·exact this.1 hm
  have:=key r (dup r) h
  exact List.nodup_cons.mpr ⟨this.1,zEY r this.2⟩
theorem zHU:zFY.Nodup:=List.Pairwise.of_map keyS (fun a b h e=>h (congrArg keyS e)) (zEY _ (by decide +kernel))
theorem zEM:zFY.all (fun s=>s.cps.all (· < 2000000))=true:=by decide +kernel
theorem zHT:zFY.all (fun s=> !(s==("__debug__":Str)))=true:=by decide +kernel
theorem zEw {i j:Nat} (h:nm i=nm j):i=j:=by
 unfold nm at h
 cases hi:zFY[i]? with
 | some a=>
  cases hj:zFY[j]? with
  | some b=>
   rw [hi,hj] at h
   have hl:i < zFY.length:=(List.getElem?_eq_some_iff.mp hi).1
   exact (List.getElem?_inj hl zHU).mp (by rw [hi,hj]; exact congrArg some h)
  | none=>
   rw [hi,hj] at h
   have hm:=List.all_eq_true.mp zEM a (List.mem_of_getElem? hi)
   have h':a=⟨#[2000000 + j]⟩:=h
   rw [h'] at hm
   simp at hm
   lia
 | none=>
  cases hj:zFY[j]? with
  | some b=>
   rw [hi,hj] at h
   have hm:=List.all_eq_true.mp zEM b (List.mem_of_getElem? hj)
   have h':b=⟨#[2000000 + i]⟩:=h.symm
   rw [h'] at hm
   simp at hm
   lia
  | none=>
   rw [hi,hj] at h
   have h':(⟨#[2000000 + i]⟩:Str)=⟨#[2000000 + j]⟩:=h
   simpa using h'
theorem zBT (i:Nat):(nm i==("__debug__":Str))=false:=by
 unfold nm
 cases hi:zFY[i]? with
 | some a=>
  have:=List.all_eq_true.mp zHT a (List.mem_of_getElem? hi)
  simpa using this
 | none=>
  show ((⟨#[2000000 + i]⟩:Str)==("__debug__":Str))=false
  rw [beq_eq_false_iff_ne]
  intro e
  have h1:(⟨#[2000000 + i]⟩:Str).cps.size=(Str.ofString "__debug__").cps.size:=congrArg (fun x:Str=>x.cps.size) e
  have h2:(Str.ofString "__debug__").cps.size=9:=by decide +kernel
  rw [h2] at h1
  simp at h1
section
variable {prog:Program} {w:World} {A:Around} {E:Value→Shared→Prop} {s:Shared} {P:Addr→Prop} {va vb:Value} {a b d:D} {Q:Value→Shared→Prop}
theorem zAM {i:Int} (hQ: ∀v s',Keeps s s'→RdW P s'.heap v (.int i)→Q v s') (t k:Nat):Q (.int i t) {s with toks:=k}:=hQ _ _ (Keeps.toks s k) (.int i t)
theorem zIE {vs:Array Value} {ds:List D} (al: ∀x,P x→∃o,s.heap.get? x=some o) (r:zAK P s.heap vs.toList ds)
  (hQ: ∀v s',Keeps s s'→RdW P s'.heap v (.list ds)→Q v s'):Q (.ref s.heap.objs.size) {s with heap:=s.heap.push {cls:= .type "list",data:= .seq vs}}:=
 hQ _ _ (Keeps.push s _) (.list (vs:=vs) (n:=0) (Heap.get?_push_size _ rfl) (fun x=>by obtain ⟨o,ho⟩:=al _ x; exact absurd (Heap.lt_size ho) (Nat.lt_irrefl _))
  (r.keep fun V V e=>Heap.get?_push_of_some _ e))
theorem zAw (h:Heap):h.get? h.objs.size=none:=by
 cases e:h.get? h.objs.size with
 | none=>rfl
 | some o=>exact absurd (Heap.lt_size e) (Nat.lt_irrefl _)
theorem zEN {vs:Array Value} {ds:List D} (r:zAK P s.heap vs.toList ds)
  (hQ: ∀v s',Keeps s s'→zCY w P s s' v (.list ds)→Q v s'):Q (.ref s.heap.objs.size) {s with heap:=s.heap.push {cls:= .type "list",data:= .seq vs}}:=
 hQ _ _ (Keeps.push s _) ⟨_,vs,0,rfl,zAw _,Heap.get?_push_size _ rfl,r.step (fun V V V e=>Heap.get?_push_of_some _ e) fun a o e x=>x.elim id fun x=>by subst x; rw [zAw] at e; cases e⟩
theorem zBy {vs:Array Value} {ds:List D} (al: ∀x,P x→∃o,s.heap.get? x=some o) (r:zAK P s.heap vs.toList ds)
  (hQ: ∀v s',Keeps s s'→RdW P s'.heap v (.tuple ds)→Q v s'):Q (.ref s.heap.objs.size) {s with heap:=s.heap.push {cls:= .type "tuple",data:= .seq vs}}:=
 hQ _ _ (Keeps.push s _) (.tuple (vs:=vs) (n:=0) (Heap.get?_push_size _ rfl) (fun x=>by obtain ⟨o,ho⟩:=al _ x; exact absurd (Heap.lt_size ho) (Nat.lt_irrefl _))
  (r.keep fun V V e=>Heap.get?_push_of_some _ e))
theorem zFM (h:addR a b=some d) (ra:RdW P s.heap va a) (rb:RdW P s.heap vb b) (al: ∀x,P x→∃o,s.heap.get? x=some o)
  (hQ: ∀v s',Keeps s s'→zCY w P s s' v d→Q v s'):wpAny (model prog w) A (binaryOp .Add va vb) Q E s:=by
 induction a using PyData.casesOn with
 | int x=>
  induction b using PyData.casesOn with
  | int y=>
   have e:zCo (Int.add x y)=some d:=h
   rw [zAZ] at e; cases e
   obtain ⟨t,rfl⟩:=ra.intInv; obtain ⟨u,rfl⟩:=rb.intInv
   exact PySem.P.add_int (zAM hQ _ _)
  | _=>cases h
 | list x=>
  induction b using PyData.casesOn with
  | list y=>
   obtain ⟨h1,h2⟩:=zAD (show zAA (zAI (app x y)) (some (PyData.list (app x y))) none=some d from h)
   cases h2
   rw [zAa] at h1 hQ
   have hl:=zAH h1
   obtain ⟨l,vs,n,rfl,g,_,r⟩:=ra.listInv; obtain ⟨l2,vs2,n2,rfl,g2,_,r2⟩:=rb.listInv
   have e1:=r.length; have e2:=r2.length
   have hz:vs.size + vs2.size≤sizeLine:=by
    have:vs.size + vs2.size=(x++y).length:=by rw [List.length_append, ←e1, ←e2]; simp
    rw [this,sizeLine_eq]; lia
   exact PySem.P.add_list g g2 (zEN (by simpa using r.append r2) hQ) hz
  | _=>cases h
 | tuple x=>
  induction b using PyData.casesOn with
  | tuple y=>
   have h:onL x none (fun V V=>onL y none fun V V=>tupR (app x y))=some d:=h
   induction x using List.casesOn with
   | nil=>cases h
   | cons x0 x=>
    induction y using List.casesOn with
    | nil=>cases h
    | cons y0 y=>
     obtain ⟨h1,h2⟩:=zAD (show zAA (zAI (app (x0 :: x) (y0 :: y))) (some (PyData.tuple (app (x0 :: x) (y0 :: y)))) none=some d from h)
     cases h2
     rw [zAa] at h1 hQ
     have hl:=zAH h1
     obtain ⟨l,vs,n,rfl,g,_,r⟩:=ra.tupInv; obtain ⟨l2,vs2,n2,rfl,g2,_,r2⟩:=rb.tupInv
     have e1:=r.length; have e2:=r2.length
     have hz:vs.size + vs2.size≤sizeLine:=by
      have:vs.size + vs2.size=((x0 :: x)++(y0 :: y)).length:=by rw [List.length_append, ←e1, ←e2]; simp
      rw [this,sizeLine_eq]; lia
     have h3: ¬vs.isEmpty=true:=by
      intro hx; have hz:vs= #[]:=by simpa using hx
      simp [hz] at e1
     have h4: ¬vs2.isEmpty=true:=by
      intro hx; have hz:vs2= #[]:=by simpa using hx
      simp [hz] at e2
     exact PySem.P.add_tuple g g2 h3 h4 (zBy al (by simpa using r.append r2) hQ) hz
  | _=>cases h
 | _=>cases h
theorem zIb (h:subR a b=some d) (ra:RdW P s.heap va a) (rb:RdW P s.heap vb b)
  (hQ: ∀v s',Keeps s s'→RdW P s'.heap v d→Q v s'):wpAny (model prog w) A (binaryOp .Sub va vb) Q E s:=by
 induction a using PyData.casesOn with
 | int x=>
  induction b using PyData.casesOn with
  | int y=>
   have e:zCo (Int.sub x y)=some d:=h
   rw [zAZ] at e; cases e
   obtain ⟨t,rfl⟩:=ra.intInv; obtain ⟨u,rfl⟩:=rb.intInv
   exact PySem.P.sub_int (zAM hQ _ _)
  | _=>cases h
 | bool x=>
  induction b using PyData.casesOn with
  | bool y=>
   have e:zCo (Int.sub (zKv x) (zKv y))=some d:=h
   rw [zAZ] at e; cases e
   rw [ra.boolInv,rb.boolInv]
   refine sub_bool ?_
   have e2:Int.sub (zKv x) (zKv y)=b2i x - b2i y:=by rw [zFu,zFu]; cases x <;> cases y <;> rfl
   rw [e2] at hQ
   exact zAM hQ _ _
  | _=>cases h
 | _=>cases h
theorem zKf (k:Nat) (items acc:Array Value):(List.foldl (fun x1 x2=>x1++x2) acc (List.replicate k items)).toList=acc.toList++(List.replicate k items.toList).flatten:=by
 induction k generalizing acc with
 | zero=>simp
 | succ k ih=>rw [List.replicate_succ,List.foldl_cons,ih,List.replicate_succ,List.flatten_cons,Array.toList_append,List.append_assoc]
theorem zAK.rep {h:Heap} {vs:List Value} {ds:List D} (r:zAK P h vs ds) (k:Nat):zAK P h (List.replicate k vs).flatten (List.replicate k ds).flatten:=by
 induction k with
 | zero=>exact .nil
 | succ k ih=>rw [List.replicate_succ,List.replicate_succ,List.flatten_cons,List.flatten_cons]; exact r.append ih
theorem zIo (h:mulR a b=some d) (ra:RdW P s.heap va a) (rb:RdW P s.heap vb b) (al: ∀x,P x→∃o,s.heap.get? x=some o)
  (hQ: ∀v s',Keeps s s'→zCY w P s s' v d→Q v s'):wpAny (model prog w) A (binaryOp .Mult va vb) Q E s:=by
 induction a using PyData.casesOn with
 | int x=>
  induction b using PyData.casesOn with
  | int y=>
   have h:zAA (zBB x) (zCo (Int.mul x y)) (zAA (zBB y) (zCo (Int.mul x y)) none)=some d:=h
   obtain ⟨t,rfl⟩:=ra.intInv; obtain ⟨u,rfl⟩:=rb.intInv
   cases hx:zBB x with
   | true=>
    rw [hx,zAJ,zAZ] at h; cases h
    have:=zCf hx
    exact PySem.P.mul_int (zAM hQ _ _) (.of_left (intBits_le_64 (by lia) (by lia)))
   | false=>
    rw [hx,zAF] at h
    obtain ⟨hy,h⟩:=zAD h
    rw [zAZ] at h; cases h
    have:=zCf hy
    exact PySem.P.mul_int (zAM hQ _ _) (.of_right (intBits_le_64 (by lia) (by lia)))
  | _=>cases h
 | list x=>
  induction b using PyData.casesOn with
  | int y=>
   obtain ⟨hy,h⟩:=zAD (show zAA (Nat.ble (toN y) 100000) (zAA (zAU y) (zAA (zAI (zOQ x (toN y))) (some (PyData.list (zOQ x (toN y)))) none) none) none=some d from h)
   obtain ⟨hy2,h⟩:=zAD h
   obtain ⟨h1,h2⟩:=zAD h
   rw [zLK,zHv] at hy
   have hy:=of_decide_eq_true hy
   have hy2:=zAq hy2
   cases h2
   rw [zOP,zHv] at h1 hQ
   have hl:=zAH h1
   obtain ⟨l,vs,n,rfl,g,_,r⟩:=ra.listInv; obtain ⟨u,rfl⟩:=rb.intInv
   have e1:=r.length
   have hz:vs.size * y.toNat≤2 ^ 24:=by
    have:(List.replicate y.toNat x).flatten.length=y.toNat * x.length:=by simp
    rw [this, ←e1] at hl
    have:vs.toList.length=vs.size:=by simp
    rw [this,Nat.mul_comm] at hl
    lia
   have hlo: -(2 ^ 63:Int)≤y:=by lia
   have hhi:y < 2 ^ 63:=by lia
   refine wpAny_binaryOp_repeat_ref (T:="list") (U:="int") (by decide) ⟨_,g,rfl⟩ (fun s'=>typeIs_int s' y u) noFill_list_mul F.fills_int_mul F.slot_int_rmul repeat_list F.slot_int_index.lookup
    (call_meets F.slot_int_rmul (typeIs_int s y u) F.entry_int_rmul (F.args_int_rmul_2 _ _) (int___rmul___int_list y u l vs n)
     ⟨g,rfl,⟨_,g,rfl⟩,call_meets F.slot_list_mul ⟨_,g,rfl⟩ F.entry_list_mul (F.args_list_mul_2 _ _)
      (AutoListH.list___mul___list_int_3 l vs n y u (by simp [Builtin.List.listFitsIndex]; lia) (by lia) (by simp [Builtin.List.listTooLong,sizeLine]; lia)) ⟨g, ?_⟩⟩)
   refine zEN ?_ hQ
   rw [zKf]
   by_cases he:vs.isEmpty=true
   ·have hz:vs= #[]:=by simpa using he
    have hx:x=[]:=by
     induction x using List.casesOn with
     | nil=>rfl
     | cons _ _=>simp [hz] at e1
    subst hx
    rw [if_pos he]
    simpa using zAK.nil
   ·rw [if_neg he]; simpa using r.rep y.toNat
  | _=>cases h
 | _=>cases h
theorem sub_int (h:subR a b=some d): ∃j,d= .int j:=by
 induction a using PyData.casesOn with
 | int x=>induction b using PyData.casesOn with
  | int y=>have e:zCo (Int.sub x y)=some d:=h; rw [zAZ] at e; cases e; exact ⟨_,rfl⟩
  | _=>cases h
 | bool x=>induction b using PyData.casesOn with
  | bool y=>have e:zCo (Int.sub (zKv x) (zKv y))=some d:=h; rw [zAZ] at e; cases e; exact ⟨_,rfl⟩
  | _=>cases h
 | _=>cases h
theorem zIP (h:zMm a b=some d): ∃j,d= .int j:=by
 induction a using PyData.casesOn with
 | int x=>induction b using PyData.casesOn with
  | int y=>
   have h:zAA (eqI y 0) none (zAA (Nat.blt (Nat.log2 (zLB y)) 9000) (zCo (Int.fdiv x y)) none)=some d:=h
   cases hy:eqI y 0 with
   | true=>rw [hy] at h; cases h
   | false=>rw [hy,zAF] at h; obtain ⟨_,h⟩:=zAD h; rw [zAZ] at h; cases h; exact ⟨_,rfl⟩
  | _=>cases h
 | _=>cases h
theorem zIO (h:zMk a b=some d): ∃j,d= .int j:=by
 induction a using PyData.casesOn with
 | int x=>induction b using PyData.casesOn with
  | int y=>
   have h:zAA (eqI y 0) none (zCo (Int.fmod x y))=some d:=h
   cases hy:eqI y 0 with
   | true=>rw [hy] at h; cases h
   | false=>rw [hy,zAF,zAZ] at h; cases h; exact ⟨_,rfl⟩
  | _=>cases h
 | _=>cases h
theorem zJw (h:powR a b=some d): ∃j,d= .int j:=by
 induction a using PyData.casesOn with
 | int x=>induction b using PyData.casesOn with
  | int y=>
   induction y with
   | ofNat n=>
    obtain ⟨_,h⟩:=zAD (show zAA (Nat.ble n 1000000) (zAA (zBB x) (zCo (Int.pow x n)) none) none=some d from h)
    obtain ⟨_,h⟩:=zAD h
    rw [zAZ] at h; cases h; exact ⟨_,rfl⟩
   | negSucc n=>cases h
  | _=>cases h
 | _=>cases h
theorem zJH {op:Operator} (h:zJN op a b=some d) (kvs:List (D×D)):d≠ .dict kvs:=by
 rintro rfl
 have ni: ∀{j:Int},PyData.dict kvs≠ .int j:=fun e=>by cases e
 induction op with
 | Sub=>obtain ⟨j,e⟩:=sub_int (show subR a b=_ from h); exact ni e
 | FloorDiv=>obtain ⟨j,e⟩:=zIP (show zMm a b=_ from h); exact ni e
 | Mod=>obtain ⟨j,e⟩:=zIO (show zMk a b=_ from h); exact ni e
 | Pow=>obtain ⟨j,e⟩:=zJw (show powR a b=_ from h); exact ni e
 | Add=>
  have h:addR a b=some (.dict kvs):=h
  induction a using PyData.casesOn with
  | int x=>induction b using PyData.casesOn with
   | int y=>have e:zCo (Int.add x y)=some (.dict kvs):=h; rw [zAZ] at e; cases e
   | _=>cases h
  | list x=>induction b using PyData.casesOn with
   | list y=>obtain ⟨_,h2⟩:=zAD (show zAA (zAI (app x y)) (some (PyData.list (app x y))) none=some (.dict kvs) from h); cases h2
   | _=>cases h
  | tuple x=>induction b using PyData.casesOn with
   | tuple y=>
    induction x using List.casesOn with
    | nil=>cases h
    | cons x0 x=>induction y using List.casesOn with
     | nil=>cases h
     | cons y0 y=>obtain ⟨_,h2⟩:=zAD (show zAA (zAI (app (x0 :: x) (y0 :: y))) (some (PyData.tuple (app (x0 :: x) (y0 :: y)))) none=some (.dict kvs) from h); cases h2
   | _=>cases h
  | _=>cases h
 | Mult=>
  have h:mulR a b=some (.dict kvs):=h
  induction a using PyData.casesOn with
  | int x=>induction b using PyData.casesOn with
   | int y=>
    have h:zAA (zBB x) (zCo (Int.mul x y)) (zAA (zBB y) (zCo (Int.mul x y)) none)=some (.dict kvs):=h
    rw [zAZ] at h
    cases hx:zBB x with
    | true=>rw [hx] at h; cases h
    | false=>rw [hx,zAF] at h; obtain ⟨_,h⟩:=zAD h; cases h
   | _=>cases h
  | list x=>induction b using PyData.casesOn with
   | int y=>
    obtain ⟨_,h⟩:=zAD (show zAA (Nat.ble (toN y) 100000) (zAA (zAU y) (zAA (zAI (zOQ x (toN y))) (some (PyData.list (zOQ x (toN y)))) none) none) none=some (.dict kvs) from h)
    obtain ⟨_,h⟩:=zAD h
    obtain ⟨_,h⟩:=zAD h
    cases h
   | _=>cases h
  | _=>cases h
 | _=>cases h
theorem zHj (h:zMm a b=some d) (ra:RdW P s.heap va a) (rb:RdW P s.heap vb b)
  (hQ: ∀v s',Keeps s s'→RdW P s'.heap v d→Q v s'):wpAny (model prog w) A (binaryOp .FloorDiv va vb) Q E s:=by
 induction a using PyData.casesOn with
 | int x=>
  induction b using PyData.casesOn with
  | int y=>
   have h:zAA (eqI y 0) none (zAA (Nat.blt (Nat.log2 (zLB y)) 9000) (zCo (Int.fdiv x y)) none)=some d:=h
   obtain ⟨t,rfl⟩:=ra.intInv; obtain ⟨u,rfl⟩:=rb.intInv
   cases hy:eqI y 0 with
   | true=>rw [hy] at h; cases h
   | false=>
    rw [hy,zAF] at h
    obtain ⟨h1,h⟩:=zAD h
    rw [zAZ] at h; cases h
    rw [zDd] at hy
    rw [nblt,zFv] at h1
    exact floordiv_int (of_decide_eq_false hy) (zAM hQ _ _) (.inl (PyProof.noPylong_of_log2 (of_decide_eq_true h1)))
  | _=>cases h
 | _=>cases h
theorem zHf (h:zMk a b=some d) (ra:RdW P s.heap va a) (rb:RdW P s.heap vb b)
  (hQ: ∀v s',Keeps s s'→RdW P s'.heap v d→Q v s'):wpAny (model prog w) A (binaryOp .Mod va vb) Q E s:=by
 induction a using PyData.casesOn with
 | int x=>
  induction b using PyData.casesOn with
  | int y=>
   have h:zAA (eqI y 0) none (zCo (Int.fmod x y))=some d:=h
   obtain ⟨t,rfl⟩:=ra.intInv; obtain ⟨u,rfl⟩:=rb.intInv
   cases hy:eqI y 0 with
   | true=>rw [hy] at h; cases h
   | false=>
    rw [hy,zAF,zAZ] at h; cases h
    rw [zDd] at hy
    exact mod_int' (of_decide_eq_false hy) (zAM hQ _ _)
  | _=>cases h
 | _=>cases h
theorem zIh (h:powR a b=some d) (ra:RdW P s.heap va a) (rb:RdW P s.heap vb b)
  (hQ: ∀v s',Keeps s s'→RdW P s'.heap v d→Q v s'):wpAny (model prog w) A (binaryOp .Pow va vb) Q E s:=by
 induction a using PyData.casesOn with
 | int x=>
  induction b using PyData.casesOn with
  | int y=>
   obtain ⟨t,rfl⟩:=ra.intInv; obtain ⟨u,rfl⟩:=rb.intInv
   induction y with
   | ofNat n=>
    obtain ⟨h1,h⟩:=zAD (show zAA (Nat.ble n 1000000) (zAA (zBB x) (zCo (Int.pow x n)) none) none=some d from h)
    obtain ⟨h2,h⟩:=zAD h
    rw [zAZ] at h; cases h
    have:=zCf h2
    rw [zLK] at h1
    have h1:=of_decide_eq_true h1
    refine pow_int_small (by simp) (by simp; lia) this ?_
    exact zAM hQ _ _
   | negSucc n=>cases h
  | _=>cases h
 | _=>cases h
theorem zFK {op:Operator} (h:zJN op a b=some d) (ra:RdW P s.heap va a) (rb:RdW P s.heap vb b) (al: ∀x,P x→∃o,s.heap.get? x=some o)
  (hQ: ∀v s',Keeps s s'→zCY w P s s' v d→Q v s'):wpAny (model prog w) A (binaryOp op va vb) Q E s:=by
 have notL: ∀{f:Int→Option D} {o:Option D},(∀i x,f i=some x→∃j,x= .int j)→zAO b f none=some d→∃j,d= .int j:=fun {f o} hf e=>by
  induction b using PyData.casesOn with
  | int y=>exact hf y d e
  | _=>cases e
 have iq: ∀{v s'},Keeps s s'→(∃j,d= .int j)→RdW P s'.heap v d→Q v s':=fun k ⟨j,e⟩ r=>hQ _ _ k (by subst e; exact r)
 induction op with
 | Add=>exact zFM h ra rb al hQ
 | Sub=>exact zIb h ra rb fun v s' k r=>iq k (sub_int h) r
 | Mult=>exact zIo h ra rb al hQ
 | FloorDiv=>exact zHj h ra rb fun v s' k r=>iq k (zIP h) r
 | Mod=>exact zHf h ra rb fun v s' k r=>iq k (zIO h) r
 | Pow=>exact zIh h ra rb fun v s' k r=>iq k (zJw h) r
 | _=>cases h
theorem zJI {op:Operator} (h:zJN op a b=some d) (ra:RdW P s.heap va a) (rb:RdW P s.heap vb b) (al: ∀x,P x→∃o,s.heap.get? x=some o)
  (hQ: ∀v s',Keeps s s'→RdW P s'.heap v d→Q v s'):wpAny (model prog w) A (binaryOp op va vb) Q E s:=
 zFK h ra rb al fun v s' k r=>hQ v s' k (r.rdw al (zJH h))
theorem zIl (h:negR a=some d) (ra:RdW P s.heap va a) (hQ: ∀v s',Keeps s s'→RdW P s'.heap v d→Q v s'):wpAny (model prog w) A (unaryOp .USub va) Q E s:=by
 induction a using PyData.casesOn with
 | int x=>
  have e:zCo (Int.neg x)=some d:=h
  rw [zAZ] at e; cases e
  obtain ⟨t,rfl⟩:=ra.intInv
  exact PySem.P.neg_int (zAM hQ _ _)
 | _=>cases h
theorem zCd {c:Bool} {Qb:Bool→Shared→Prop} (h:zFR a=some c) (ra:RdW P s.heap va a) (hQ:Qb c s):wpAny (model prog w) A (truthy va) Qb E s:=by
 induction a using PyData.casesOn with
 | none=>cases h; rw [ra.noneInv]; exact fun V V V=>hQ
 | bool x=>cases h; rw [ra.boolInv]; exact wpAny_truthy_bool hQ
 | int x=>
  have e:some (zEm (eqI x 0))=some c:=h
  cases e
  obtain ⟨t,rfl⟩:=ra.intInv
  refine PySem.P.truthy_int ?_
  have e:(x != 0)=zEm (eqI x 0):=by
   rw [zDd,zCh]
   by_cases hx:x=0 <;> simp [hx]
  rw [e]; exact hQ
 | _=>cases h
end
section
variable {prog:Program} {w:World} {A:Around} {E:Value→Shared→Prop} {s:Shared} {P:Addr→Prop} {va vb:Value} {a b d:D} {Q:Value→Shared→Prop}
theorem zKk {r:Bool} (h:eqD a b=some r) (ra:RdW P s.heap va a) (rb:RdW P s.heap vb b) (hu:A.units + 62 < cLine) (hQ:Q (.bool r) s):
  wpAny (model prog w) A (compareOp .Eq va vb) Q E s:=by
 obtain ⟨_,r1⟩:=ra.reads; obtain ⟨_,r2⟩:=rb.reads
 obtain ⟨rfl,hd⟩:=zIR ra.lay0 rb.lay0 h
 exact SeqAt.compareEq_reads r1 r2 ra.lay0 rb.lay0 (by lia) hQ
theorem zGY {r:Bool} (h:zPv (eqD a b)=some r) (ra:RdW P s.heap va a) (rb:RdW P s.heap vb b) (hu:A.units + 62 < cLine) (hQ:Q (.bool r) s):
  wpAny (model prog w) A (compareOp .NotEq va vb) Q E s:=by
 obtain ⟨q,h1,h2⟩:=zAB h
 cases h2
 obtain ⟨_,r1⟩:=ra.reads; obtain ⟨_,r2⟩:=rb.reads
 obtain ⟨rfl,hd⟩:=zIR ra.lay0 rb.lay0 h1
 rw [zCh] at hQ
 exact SeqAt.compareNe_reads r1 r2 ra.lay0 rb.lay0 (by lia) hQ
theorem zBC {v:Value} {h:Heap} {xs:List D} (x:PkR w P h v (.list xs)): ∃a vs n,v= .ref a∧h.get? a=some (zBz vs n)∧zAK P h vs.toList xs:=by
 rcases x with x | ⟨a,vs,n,e,g,r⟩
 ·obtain ⟨a,vs,n,e,g,_,r⟩:=x.listInv; exact ⟨a,vs,n,e,g,r⟩
 ·exact ⟨a,vs,n,e,g,r⟩
theorem zDY {v:Value} {h:Heap} {xs:List D} (x:PkR w P h v (.tuple xs)): ∃a vs n,v= .ref a∧h.get? a=some (zPH vs n)∧zAK P h vs.toList xs:=by
 rcases x with x | x
 ·obtain ⟨a,vs,n,e,g,_,r⟩:=x.tupInv; exact ⟨a,vs,n,e,g,r⟩
 ·exact x.elim
theorem zDM {v:Value} {h:Heap} {kvs:List (D×D)} (x:PkR w P h v (.dict kvs)): ∃a,v= .ref a∧zAc w P h a kvs:=by
 rcases x with x | x
 ·exact x.noDict.elim
 ·exact x
theorem zIw {r:Bool} (h:isIn a b=some r) (ra:RdW P s.heap va a) (rb:PkR w P s.heap vb b) (hu:A.units + 62 < cLine) (hQ': ∀s',Keeps s s'→Q (.bool r) s'):
  wpAny (model prog w) A (compareOp .In va vb) Q E s:=by
 have hQ:=hQ' s (Keeps.refl s)
 induction b using PyData.casesOn with
 | list xs=>
  obtain ⟨h1,h2⟩:=zAD (show zAA (zJc a) (some (zGx a xs)) none=some r from h)
  cases h2
  obtain ⟨_,r1⟩:=ra.reads
  obtain ⟨c,vs,n,rfl,g,q⟩:=zBC rb
  obtain ⟨_,r2⟩:=q.reads
  rw [zDs] at hQ
  have:=zCO ra.lay0 h1
  exact SeqAt.in_list_reads (.list g rfl rfl r2) r1 q.lay0 ra.lay0 (by lia) hQ
 | tuple xs=>
  obtain ⟨h1,h2⟩:=zAD (show zAA (zJc a) (some (zGx a xs)) none=some r from h)
  cases h2
  obtain ⟨_,r1⟩:=ra.reads
  obtain ⟨c,vs,n,rfl,g,q⟩:=zDY rb
  obtain ⟨_,r2⟩:=q.reads
  rw [zDs] at hQ
  have:=zCO ra.lay0 h1
  exact SeqAt.in_tuple_reads (.tuple g rfl rfl r2) r1 q.lay0 ra.lay0 (by lia) hQ
 | dict kvs=>
  obtain ⟨h1,h2⟩:=zAD (show zAA (zAe a) (zAA (zEq kvs) (some (zNb a kvs)) none) none=some r from h)
  obtain ⟨h4,h3⟩:=zAD h2
  cases h3
  obtain ⟨c,rfl,q⟩:=zDM rb
  exact zMt hu q h4 ra h1 hQ'
 | _=>cases h
theorem zHS {r:Bool} (h0:zPv (isIn a b)=some r) (ra:RdW P s.heap va a) (rb:PkR w P s.heap vb b) (hu:A.units + 62 < cLine) (hQ': ∀s',Keeps s s'→Q (.bool r) s'):
  wpAny (model prog w) A (compareOp .NotIn va vb) Q E s:=by
 obtain ⟨q0,h,hq0⟩:=zAB h0
 clear h0
 cases hq0
 rw [zCh] at hQ'
 have hQ:=hQ' s (Keeps.refl s)
 induction b using PyData.casesOn with
 | list xs=>
  obtain ⟨h1,h2⟩:=zAD (show zAA (zJc a) (some (zGx a xs)) none=some q0 from h)
  cases h2
  obtain ⟨_,r1⟩:=ra.reads
  obtain ⟨c,vs,n,rfl,g,q⟩:=zBC rb
  obtain ⟨_,r2⟩:=q.reads
  rw [zDs] at hQ
  have:=zCO ra.lay0 h1
  exact SeqAt.notIn_list_reads (.list g rfl rfl r2) r1 q.lay0 ra.lay0 (by lia) hQ
 | tuple xs=>
  obtain ⟨h1,h2⟩:=zAD (show zAA (zJc a) (some (zGx a xs)) none=some q0 from h)
  cases h2
  obtain ⟨_,r1⟩:=ra.reads
  obtain ⟨c,vs,n,rfl,g,q⟩:=zDY rb
  obtain ⟨_,r2⟩:=q.reads
  rw [zDs] at hQ
  have:=zCO ra.lay0 h1
  exact SeqAt.notIn_tuple_reads (.tuple g rfl rfl r2) r1 q.lay0 ra.lay0 (by lia) hQ
 | dict kvs=>
  obtain ⟨h1,h2⟩:=zAD (show zAA (zAe a) (zAA (zEq kvs) (some (zNb a kvs)) none) none=some q0 from h)
  obtain ⟨h4,h3⟩:=zAD h2
  cases h3
  obtain ⟨c,rfl,q⟩:=zDM rb
  exact zHl hu q h4 ra h1 hQ'
 | _=>cases h
theorem zGe (ra:RdW P s.heap va a):(va== .none)=isNone a:=by
 cases ra <;> rfl
theorem zKF {r:D} {x:Bool} {o:Option Bool} (h:zAi r o none=some x):r= .none∧o=some x:=by
 cases r <;> first | exact ⟨rfl,h⟩ | cases h
theorem zCV {op:CmpOp} {r:Bool} (h:cmpR op a b=some r) (ra:RdW P s.heap va a) (rb:zAA (zLN op) (PkR w P s.heap vb b) (RdW P s.heap vb b)) (hu:A.units + 62 < cLine) (hQ': ∀s',Keeps s s'→Q (.bool r) s'):
  wpAny (model prog w) A (compareOp op va vb) Q E s:=by
 have hQ:=hQ' s (Keeps.refl s)
 have tw: ∀{f:Int→Int→Bool},zSg f a b=some r→RdW P s.heap vb b→∃x y t u,va= .int x t∧vb= .int y u∧r=f x y:=by
  intro f h rb
  induction a using PyData.casesOn with
  | int x=>
   induction b using PyData.casesOn with
   | int y=>cases h; obtain ⟨t,rfl⟩:=ra.intInv; obtain ⟨u,rfl⟩:=rb.intInv; exact ⟨x,y,t,u,rfl,rfl,rfl⟩
   | _=>cases h
  | _=>cases h
 induction op with
 | Eq=>exact zKk h ra rb hu hQ
 | NotEq=>exact zGY h ra rb hu hQ
 | Lt=>obtain ⟨x,y,t,u,rfl,rfl,rfl⟩:=tw h rb; rw [zDa] at hQ; exact PySem.P.lt_int hQ
 | LtE=>obtain ⟨x,y,t,u,rfl,rfl,rfl⟩:=tw h rb; rw [zKO] at hQ; exact PySem.P.le_int hQ
 | Gt=>obtain ⟨x,y,t,u,rfl,rfl,rfl⟩:=tw (f:=fun x y=>ltI y x) h rb; rw [zDa] at hQ; exact PySem.P.gt_int hQ
 | GtE=>obtain ⟨x,y,t,u,rfl,rfl,rfl⟩:=tw (f:=fun x y=>leI y x) h rb; rw [zKO] at hQ; exact PySem.P.ge_int hQ
 | Is=>
  obtain ⟨rfl,e⟩:=zKF (show zAi b (some (isNone a)) none=some r from h)
  cases e
  rw [RdW.noneInv rb]
  exact is_none_gen (by rw [zGe ra]; exact hQ)
 | IsNot=>
  obtain ⟨rfl,e⟩:=zKF (show zAi b (some (zEm (isNone a))) none=some r from h)
  cases e
  rw [RdW.noneInv rb]
  rw [zCh] at hQ
  exact isnot_none_gen (by rw [zGe ra]; exact hQ)
 | In=>exact zIw h ra rb hu hQ'
 | NotIn=>exact zHS h ra rb hu hQ'
theorem zBe {i:D} {vi:Value} (h:zLO a i=some d) (ra:PkR w P s.heap va a) (ri:RdW P s.heap vi i) (hu:A.units + 62 < cLine) (hQ: ∀v s',Keeps s s'→RdW P s'.heap v d→Q v s'):
  wpAny (model prog w) A (getItem va vi) Q E s:=by
 have nth: ∀{l:List D} {vs:Array Value} {k:Int},zPu l k=some d→zAK P s.heap vs.toList l→∃v j,RdW P s.heap v d∧vs[j]? =some v∧((0≤k∧j=k.toNat)∨(k < 0∧ -(vs.size:Int)≤k∧j=(k + vs.size).toNat)):=by
  intro l vs k hk r
  induction k with
  | ofNat n=>
   have e:zFW l n=some d:=hk
   rw [zEK] at e
   obtain ⟨v,e1,r1⟩:=r.get e
   exact ⟨v,n,r1,by simpa using e1, .inl ⟨by simp,by simp⟩⟩
  | negSucc n=>
   have e:zFW (rev l) n=some d:=hk
   rw [zEK,zEt] at e
   have hlt:n < l.length:=by simpa using (List.getElem?_eq_some_iff.mp e).1
   rw [List.getElem?_reverse hlt] at e
   obtain ⟨v,e1,r1⟩:=r.get e
   have hl:vs.size=l.length:=by rw [←r.length]; simp
   refine ⟨v,l.length - 1 - n,r1,by simpa using e1, .inr ⟨Int.negSucc_lt_zero n,by lia,by lia⟩⟩
 induction a using PyData.casesOn with
 | list xs=>
  induction i using PyData.casesOn with
  | int k=>
   obtain ⟨h1,h2⟩:=zAD (show zAA (zAU k) (zPu xs k) none=some d from h)
   have hs:=zAq h1
   obtain ⟨c,vs,n,rfl,g,q⟩:=zBC ra
   obtain ⟨t,rfl⟩:=ri.intInv
   obtain ⟨v,j,r1,e1,hj⟩:=nth h2 q
   rcases hj with ⟨hk,rfl⟩ | ⟨hk,hk2,rfl⟩
   ·exact wpAny_getItem_list (zAL g) hk (by lia) e1 (hQ v s (Keeps.refl s) r1)
   ·exact wpAny_getItem_list_neg (zAL g) hk hk2 (by lia) e1 (hQ v s (Keeps.refl s) r1)
  | _=>cases h
 | tuple xs=>
  induction i using PyData.casesOn with
  | int k=>
   obtain ⟨h1,h2⟩:=zAD (show zAA (zAU k) (zPu xs k) none=some d from h)
   have hs:=zAq h1
   obtain ⟨c,vs,n,rfl,g,q⟩:=zDY ra
   obtain ⟨t,rfl⟩:=ri.intInv
   obtain ⟨v,j,r1,e1,hj⟩:=nth h2 q
   have hjs:j < vs.size:=(Array.getElem?_eq_some_iff.mp e1).1
   refine PySem.P.getItem_tuple (k:=j) g (by lia) (by lia) ?_ e1 (hQ v s (Keeps.refl s) r1)
   rcases hj with ⟨hk,rfl⟩ | ⟨hk,hk2,rfl⟩
   ·have hn: ¬k < 0:=by lia
    show (if (decide (0≤(if k < 0 then k + (vs.size:Int) else k))&&decide ((if k < 0 then k + (vs.size:Int) else k) < (vs.size:Int)))=true then _ else _)=_
    rw [if_neg hn]
    exact if_pos (by simp; lia)
   ·show (if (decide (0≤(if k < 0 then k + (vs.size:Int) else k))&&decide ((if k < 0 then k + (vs.size:Int) else k) < (vs.size:Int)))=true then _ else _)=_
    rw [if_pos hk]
    exact if_pos (by simp; lia)
  | _=>cases h
 | dict kvs=>
  obtain ⟨h1,h2⟩:=zAD (show zAA (zMB i) (zBt i kvs) none=some d from h)
  obtain ⟨c,rfl,q⟩:=zDM ra
  exact zGq hu q ri h1 h2 hQ
 | _=>cases h
end
section
def zKW (k:Option NameKind):Bool:=Option.rec (motive:=fun V=>Bool) false (fun k=>NameKind.rec (motive:=fun V=>Bool) false true false false false k) k
def zBc (k:Option NameKind):Bool:=Option.rec (motive:=fun V=>Bool) false (fun k=>NameKind.rec (motive:=fun V=>Bool) true true false false false k) k
def zDP (k:Option NameKind):Bool:=Option.rec (motive:=fun V=>Bool) false (fun k=>NameKind.rec (motive:=fun V=>Bool) false false false false true k) k
def okC (c:Const):Bool:=Const.rec (motive:=fun V=>Bool) true (fun V=>true) (fun V=>true) (fun V=>true) (fun V V=>true) (fun s=>PyData.strOk s) (fun V=>true) true c
def zPt (sc sc':Scope) (tg:List Nat):Bool:=
 zAA (sc.kind== .function) (zAA (sc'.kind== .function) (zAA (decide (sc'.names.map (·.1)).Nodup)
  (sc'.names.all fun p=>NameKind.rec (motive:=fun V=>Bool) ((18 :: tg).any fun x=>decide (nm x=p.1)) ((18 :: tg).any fun x=>decide (nm x=p.1)) (zAA (zKW (sc.names.lookup p.1)) (zEm ((18 :: tg).any fun x=>decide (nm x=p.1))) false) true true p.2) false) false) false
def zKT (e:E):Bool:=Option.rec (motive:=fun V=>Bool) false (fun V=>true) (zDx e)
noncomputable def zAm (sc sc':Scope):Scope:={sc' with names:=sc'.names.map fun (n,k)=>if (k== .free&&sc.kind== .function&&sc.names.lookup n==some .cell) then (n, .cell) else (n,k)}
def foE {α:Type} (d:α) (n:α:=d) (c:E→E→α→α→α:=fun V V V V=>d) (v:Nat→α:=fun V=>d) (t:E→α→α:=fun V V=>d) (b:B→α:=fun V=>d) (m:E→α:=fun V=>d) (g:α→α→α:=fun V V=>d) (e:E):α:=E.rec (motive:=fun V=>α) n c (fun V V V=>d) (fun x V=>v x) (fun V V=>d) (fun V V V V V V=>d) (fun V V V=>d) (fun V V V=>d)
 (fun V V V V V V V=>d) (fun V V V V=>d) (fun V V V V V V=>d) (fun l V V a=>t l a) (fun V V V=>d) (fun V=>d) (fun V V V V V=>d) (fun V V V V V V V=>d) (fun V V V V V=>d) (fun f V V V V=>b f)
 (fun o V V V V V V=>m o) (fun V V V V V V V=>d) (fun V V V V V V V V V=>d) (fun V V V a i V=>g a i) (fun V=>d) e
def zAu (e:E):List Nat:=foE [] (c:=fun V V=>app) (v:=fun x=>[x]) (t:=fun V a=>a) (g:=fun a V=>a) (e:=e)
def zKU (e:E):Bool:=Nat.beq e.ctorIdx 11
def zEO (e:E):Bool:=foE false (b:=fun b=>Nat.beq b.ctorIdx 9) (m:=fun V=>true) (e:=e)
def zIJ (e:E):Bool:=foE false (c:=fun V V a b=>zAA a true b) (m:=fun V=>true) (g:=fun V i=>i) (e:=e)
def isGe (e:E):Bool:=Nat.beq e.ctorIdx 21
def okG (tg:List Nat) (e:E):Bool:=foE false true (fun h t V it=>zAA (isGe h) (zAA ((zAu h).all fun x=>decide (x∈tg)&& !decide (x∈zAu t)) (zAA (zIJ t) false it) false) false) (e:=e)
structure CQ where
 k:Scope→Bool
 g:Scope→Scope→Bool
 n:Nat
noncomputable def CQ.of (k:Scope→Bool):CQ:=⟨k,fun V V=>true,0⟩
def Ck (e:E):CQ:=
 E.rec (motive:=fun V=>CQ)
  (CQ.of (fun V=>true))
  (fun V V h t=>⟨fun sc=>zAA (h.k sc) (t.k sc) false,fun sc sc'=>zAA (h.g sc sc') (t.g sc' sc') false,Nat.succ t.n⟩)
  (fun c V V=>CQ.of (fun V=>okC c))
  (fun x V=>CQ.of (fun sc=>zBc (sc.names.lookup (nm x))))
  (fun x V=>CQ.of (fun sc=>zDP (sc.names.lookup (nm x))))
  (fun V V V V a b=>CQ.of (fun sc=>zAA (a.k sc) (b.k sc) false))
  (fun V V a=>CQ.of a.k) (fun V V a=>CQ.of a.k)
  (fun V V V V t b o=>CQ.of (fun sc=>zAA (t.k sc) (zAA (b.k sc) (o.k sc) false) false))
  (fun V V V l=>CQ.of l.k)
  (fun V ops V V a l=>CQ.of (fun sc=>zAA (a.k sc) (zAA (Nat.beq (len ops) l.n) (l.k sc) false) false))
  (fun V V V l=>CQ.of l.k) (fun V V l=>CQ.of l.k) (fun V=>CQ.of (fun V=>true))
  (fun V V V a b=>CQ.of (fun sc=>zAA (a.k sc) (b.k sc) false))
  (fun V V V V t b o=>CQ.of (fun sc=>zAA (t.k sc) (zAA (b.k sc) (o.k sc) false) false))
  (fun f V V V l=>CQ.of (fun sc=>zAA (zDP (sc.names.lookup (nm f))) (l.k sc) false))
  (fun b V V V l=>CQ.of (fun sc=>zAA (zDP (sc.names.lookup b.name)) (l.k sc) false))
  (fun o V mp V p ko l=>CQ.of (fun sc=>zAA (zAA (zKT o) (zAA (Nat.beq mp.endLine p.line) (Nat.ble l.n 20) false) false) (zAA (ko.k sc) (l.k sc) false) false))
  (fun V g0 tg sc' V e g=>CQ.of (fun sc=>zAA (zAA (zPt sc sc' tg) (zAA (Nat.blt 0 g.n) (okG tg g0) false) false) (zAA (g.g sc (zAm sc sc')) (e.k (zAm sc sc')) false) false))
  (fun V V g0 tg sc' V k v g=>CQ.of (fun sc=>zAA (zAA (zPt sc sc' tg) (zAA (Nat.blt 0 g.n) (okG tg g0) false) false) (zAA (g.g sc (zAm sc sc')) (zAA (k.k (zAm sc sc')) (v.k (zAm sc sc')) false) false) false))
  (fun t0 i0 V t i fs=>⟨fun V=>true,fun sc sc'=>zAA (zAA (zEO i0) (zKU t0) true) (zAA (i.k sc) (zAA (t.k sc') (fs.k sc') false) false) false,0⟩)
  (fun V=>CQ.of (fun V=>true)) e
end
noncomputable def B.val:B→Value
 | .len=> .builtin "len" | .abs=> .builtin "abs" | .max=> .builtin "max" | .min=> .builtin "min" | .list=> .type "list" | .tuple=> .type "tuple" | .sorted=> .builtin "sorted"
 | .all=> .builtin "all" | .range=> .type "range" | .enumerate=> .type "enumerate" | .reversed=> .type "reversed"
structure Wd (w:World) (G:Heap) (ga:Addr×Addr) (mg:Str→Option Value) (gcx:Nat→Option D):Prop where
 ns:G.Ns ga.1 mg
 blt: ∃mb,G.Ns ga.2 mb∧∀b:B,mg b.name=none∧mb b.name=some b.val
 con: ∀x d,gcx x=some d→∃v,mg (nm x)=some v∧PkR w (fun V=>False) G v d
 nolimit:G.NoLimit
 sys: ∃o,G.get? sysModules=some o
structure Cx (w:World) (G:Heap) (ga:Addr×Addr) (A:Around) (env:Env) (P:Addr→Prop) (fr:Frm) (s:Shared) (n:Nat):Prop where
 ok:zPL w G env P fr s
 hand:zAG A s.heap
 hp: ∀b∈zAQ A,¬P b
 gl:env.globals=ga.1∧env.builtins=ga.2
 dep:A.depth + n≤900
 un:A.units + 16 * n + 200≤9800
theorem Cx.keeps {w:World} {G:Heap} {ga:Addr×Addr} {A:Around} {env:Env} {P:Addr→Prop} {fr:Frm} {s s':Shared} {n:Nat} (x:Cx w G ga A env P fr s n) (hk:Keeps s s'):Cx w G ga A env P fr s' n:=
 ⟨x.ok.keeps hk,x.hand.keep fun V V e=>Keeps.get hk e,x.hp,x.gl,x.dep,x.un⟩
theorem Cx.units {w:World} {G:Heap} {ga:Addr×Addr} {A:Around} {env:Env} {P:Addr→Prop} {fr:Frm} {s:Shared} {n:Nat} (x:Cx w G ga A env P fr s n):A.units + 62 < cLine:=by
 have:=x.un
 show _ < 9900
 lia
section
variable (prog:Program) (w:World) (G:Heap) (ga:Addr×Addr) (gcx:Nat→Option D) (call:Nat→List D→Option D) (rc:Nat)
structure SE (e:E):Prop where
 v: ∀(A:Around) (env:Env) (P:Addr→Prop) (fr:Frm) (s:Shared) (Q:Value→Shared→Prop) (E:Value→Shared→Prop) (d:D),Cx w G ga A env P fr s rc→(Ck e).k env.scope=true→
  (Ev gcx call e).v fr=some d→(∀v s',Keeps s s'→RdW P s'.heap v d→Q v s')→wpAny (model prog w) A (eval (up nm e) env) Q E s
 p: ∀(A:Around) (env:Env) (P:Addr→Prop) (fr:Frm) (s:Shared) (Q:Value→Shared→Prop) (E:Value→Shared→Prop) (d:D),Cx w G ga A env P fr s rc→(Ck e).k env.scope=true→
  (Ev gcx call e).p fr=some d→(∀v s',Keeps s s'→PkR w P s'.heap v d→Q v s')→wpAny (model prog w) A (eval (up nm e) env) Q E s
 t: ∀(A:Around) (env:Env) (P:Addr→Prop) (fr:Frm) (s:Shared) (Q:Bool→Shared→Prop) (E:Value→Shared→Prop) (c:Bool),Cx w G ga A env P fr s rc→(Ck e).k env.scope=true→
  (Ev gcx call e).t fr=some c→(∀s',Keeps s s'→Q c s')→wpAny (model prog w) A (isTrue (up nm e) env (eval (up nm e) env)) Q E s
variable {prog w G ga gcx call rc}
theorem SE.truthOf {e:E} (hv: ∀(A:Around) (env:Env) (P:Addr→Prop) (fr:Frm) (s:Shared) (Q:Value→Shared→Prop) (E:Value→Shared→Prop) (d:D),Cx w G ga A env P fr s rc→(Ck e).k env.scope=true→
   (Ev gcx call e).v fr=some d→(∀v s',Keeps s s'→RdW P s'.heap v d→Q v s')→wpAny (model prog w) A (eval (up nm e) env) Q E s)
  {A:Around} {env:Env} {P:Addr→Prop} {fr:Frm} {s:Shared} {Q:Bool→Shared→Prop} {E:Value→Shared→Prop} {c:Bool} (cx:Cx w G ga A env P fr s rc) (hk:(Ck e).k env.scope=true)
  (h:bnd ((Ev gcx call e).v fr) zFR=some c) (hQ: ∀s',Keeps s s'→Q c s')
  (he:isTrue (up nm e) env (eval (up nm e) env)=(do let v←eval (up nm e) env; standAt (up nm e).pos; holding [v] (truthy v)):=by rfl):
  wpAny (model prog w) A (isTrue (up nm e) env (eval (up nm e) env)) Q E s:=by
 obtain ⟨d,h1,h2⟩:=zAB h
 exact isTrue_plain (hv A env P fr s _ E d cx hk h1 fun v s' k r=>zCd h2 r (hQ s' k)) he
theorem zJn {c:Const} {k:Nat} {p:Pos}:SE prog w G ga gcx call rc (.cst c k p):=by
 have hv: ∀(A:Around) (env:Env) (P:Addr→Prop) (fr:Frm) (s:Shared) (Q:Value→Shared→Prop) (E:Value→Shared→Prop) (d:D),Cx w G ga A env P fr s rc→(Ck (.cst c k p)).k env.scope=true→
   (Ev gcx call (.cst c k p)).v fr=some d→(∀v s',Keeps s s'→RdW P s'.heap v d→Q v s')→wpAny (model prog w) A (eval (up nm (.cst c k p)) env) Q E s:=by
  intro A env P fr s Q E d cx hk h hQ
  have h:cstR c=some d:=h
  have hk:okC c=true:=hk
  rw [arm_eval_Constant]
  induction c with
  | none=>cases h; exact wpAny_pure (hQ _ _ (Keeps.refl s) .none)
  | bool b=>cases h; exact wpAny_pure (hQ _ _ (Keeps.refl s) (.bool b))
  | int i=>cases h; exact wpAny_mkInt (zAM hQ _ _)
  | str x=>cases h; exact wpAny_mkText (hQ _ _ (Keeps.toks s _) (.str x _ hk))
  | _=>cases h
 exact ⟨hv,fun A env P fr s Q E d cx hk h hQ=>hv A env P fr s Q E d cx hk h fun v s' k r=>hQ v s' k (.inl r),fun A env P fr s Q E c cx hk h hQ=>SE.truthOf hv cx hk h hQ⟩
theorem zAx {k:Option NameKind} (h:zBc k=true):k=some .local∨k=some .cell:=by
 induction k with
 | none=>cases h
 | some k=>cases k <;> first | exact .inl rfl | exact .inr rfl | cases h
theorem zGf {k:Option NameKind} (h:zDP k=true):k=some .globalImplicit:=by
 induction k with
 | none=>cases h
 | some k=>cases k <;> first | rfl | cases h
theorem zDN {A:Around} {env:Env} {P:Addr→Prop} {fr:Frm} {s:Shared} {Q:Value→Shared→Prop} {E:Value→Shared→Prop} {x:Nat} {p:Pos} {sl:Slot} (ok:zPL w G env P fr s)
  (hk:zBc (env.scope.names.lookup (nm x))=true) (h:zAE x fr=some sl) (hQ: ∀v,zLG w P s.heap v sl→Q v s):wpAny (model prog w) A (eval (.Name (nm x) p) env) Q E s:=by
 obtain ⟨m,hn,hv⟩:=ok.names
 obtain ⟨v,hv,r⟩:=hv x sl h (zAx hk)
 refine wpAny_Name ?_ (zBT x)
 rcases hv with ⟨h1,h2⟩ | ⟨h1,c,h2,h3⟩
 ·exact wpAny_loadName_local ok.kind h1 hn h2 (hQ v r)
 ·exact wpAny_loadName_cell ok.kind h1 h2 h3 (hQ v r)
theorem zJe {x:Nat} {p:Pos}:SE prog w G ga gcx call rc (.var x p):=by
 have hv: ∀(A:Around) (env:Env) (P:Addr→Prop) (fr:Frm) (s:Shared) (Q:Value→Shared→Prop) (E:Value→Shared→Prop) (d:D),Cx w G ga A env P fr s rc→(Ck (.var x p)).k env.scope=true→
   (Ev gcx call (.var x p)).v fr=some d→(∀v s',Keeps s s'→RdW P s'.heap v d→Q v s')→wpAny (model prog w) A (eval (up nm (.var x p)) env) Q E s:=by
  intro A env P fr s Q E d cx hk h hQ
  obtain ⟨sl,h1,h2⟩:=zAB (show bnd (zAE x fr) _=some d from h)
  refine zDN cx.ok hk h1 fun v r=>hQ v s (Keeps.refl s) ?_
  induction sl with
  | val d'=>cases h2; exact r
  | own d'=>cases h2
 refine ⟨hv,fun A env P fr s Q E d cx hk h hQ=> ?_,fun A env P fr s Q E c cx hk h hQ=>SE.truthOf hv cx hk h hQ⟩
 obtain ⟨sl,h1,h2⟩:=zAB (show bnd (zAE x fr) _=some d from h)
 refine zDN cx.ok hk h1 fun v r=>hQ v s (Keeps.refl s) ?_
 induction sl with
 | val d'=>cases h2; exact .inl r
 | own d'=>cases h2; exact .inr r.1
theorem zJq {a b:E} {op:Operator} {p:Pos} (ha:SE prog w G ga gcx call rc a) (hb:SE prog w G ga gcx call rc b):SE prog w G ga gcx call rc (.bin a op b p):=by
 have hv: ∀(A:Around) (env:Env) (P:Addr→Prop) (fr:Frm) (s:Shared) (Q:Value→Shared→Prop) (E:Value→Shared→Prop) (d:D),Cx w G ga A env P fr s rc→(Ck (.bin a op b p)).k env.scope=true→
   (Ev gcx call (.bin a op b p)).v fr=some d→(∀v s',Keeps s s'→RdW P s'.heap v d→Q v s')→wpAny (model prog w) A (eval (up nm (.bin a op b p)) env) Q E s:=by
  intro A env P fr s Q E d cx hk h hQ
  obtain ⟨k1,k2⟩:(Ck a).k env.scope=true∧(Ck b).k env.scope=true:=by
   have hk:zAA ((Ck a).k env.scope) ((Ck b).k env.scope) false=true:=hk
   cases e:(Ck a).k env.scope with
   | true=>rw [e] at hk; exact ⟨rfl,hk⟩
   | false=>rw [e] at hk; cases hk
  obtain ⟨x,h1,h⟩:=zAB (show bnd ((Ev gcx call a).v fr) (fun x=>bnd ((Ev gcx call b).v fr) fun y=>zJN op x y)=some d from h)
  obtain ⟨y,h2,h3⟩:=zAB h
  refine wpAny_BinOp (ha.v A env P fr s _ E x cx k1 h1 fun v s₁ q1 r1=> ?_)
  refine hb.v A env P fr s₁ _ E y (cx.keeps q1) k2 h2 fun u s₂ q2 r2=> ?_
  exact zJI h3 (RdW.keeps r1 q2) r2 ((cx.keeps q1).keeps q2).ok.live fun v s₃ q3 r3=>hQ v s₃ (Keeps.trans (Keeps.trans q1 q2) q3) r3
 exact ⟨hv,fun A env P fr s Q E d cx hk h hQ=>hv A env P fr s Q E d cx hk h fun v s' k r=>hQ v s' k (.inl r),fun A env P fr s Q E c cx hk h hQ=>SE.truthOf hv cx hk h hQ⟩
end
theorem zFS {P:E→Prop} (H: ∀r,(∀a b,r= .cons a b→P b)→P r) (r:E):P r:=by
 induction r with
 | cons a b _ ih=>exact H _ fun V V e=>by cases e; exact ih
 | _=>exact H _ fun V V e=>by cases e
section
variable {gcx:Nat→Option D} {call:Nat→List D→Option D} {fr:Frm}
theorem zIu {l:E} {ds:List D} (h:(Ev gcx call l).l fr=some ds):(l= .nil∧ds=[])∨∃x y d dr,l= .cons x y∧ds=d :: dr∧(Ev gcx call x).v fr=some d∧(Ev gcx call y).l fr=some dr:=by
 induction l using E.casesOn with
 | nil=>exact .inl ⟨rfl,(Option.some.inj h).symm⟩
 | cons x y=>
  obtain ⟨d,h1,h⟩:=zAB (show bnd ((Ev gcx call x).v fr) (fun d=>bnd ((Ev gcx call y).l fr) fun ds=>some (d :: ds))=some ds from h)
  obtain ⟨dr,h2,h⟩:=zAB h
  exact .inr ⟨x,y,d,dr,rfl,(Option.some.inj h).symm,h1,h2⟩
 | _=>cases h
theorem zQE {l:E} (h:(Ev gcx call l).l fr=some []):ups nm l=[]:=by
 rcases zIu h with ⟨rfl,_⟩ | ⟨_,_,_,_,_,e,_⟩
 ·rfl
 ·cases e
theorem zNS {l:E} {ds:List D} (h:(Ev gcx call l).lp fr=some ds):ds=[]∨∃x y d,l= .cons x y∧(Ev gcx call x).p fr=some d:=by
 induction l using E.casesOn with
 | nil=>exact .inl (Option.some.inj h).symm
 | cons x y=>
  obtain ⟨d,h1,_⟩:=zAB (show bnd ((Ev gcx call x).p fr) (fun d=>bnd ((Ev gcx call y).l fr) fun ds=>some (d :: ds))=some ds from h)
  exact .inr ⟨x,y,d,rfl,h1⟩
 | _=>cases h
theorem zQJ {i:E} {ds:List D} (h:zIJ i=true) (h1:(Ev gcx call i).i fr=some ds): ∃o m mp l p,i= .meth o m mp l p:=by
 induction i using E.casesOn with
 | meth o m mp l p=>exact ⟨o,m,mp,l,p,rfl⟩
 | cons _ _=>cases h1
 | gen _ _ _=>cases h1
 | _=>cases h
end
theorem zCL {t:E} {x:Nat} (h:zDx t=some x): ∃p,t= .var x p:=by
 induction t using E.casesOn with
 | var _ p=>cases h; exact ⟨p,rfl⟩
 | _=>cases h
theorem zGc {t:E} (h:zKT t=true): ∃x p,t= .var x p:=by
 cases q:zDx t with
 | none=>unfold zKT at h; rw [q] at h; cases h
 | some x=>exact ⟨x,zCL q⟩
theorem zEz {m:Mth} {a:D} {l r:List D} (h:zLo m a l=some r):m= .items∧l=[]∧∃kvs,a= .dict kvs∧zAI kvs=true∧zEq kvs=true∧r=zLL (fun p=>PyData.tuple [p.1,p.2]) kvs:=by
 induction m with
 | items=>
  induction a using PyData.casesOn with
  | dict kvs=>
   have h:onL l (zAA (zAI kvs) (zAA (zEq kvs) (some (zLL (fun p=>PyData.tuple [p.1,p.2]) kvs)) none) none) (fun V V=>none)=some r:=h
   induction l using List.casesOn with
   | nil=>
    obtain ⟨h1,h⟩:=zAD h
    obtain ⟨h2,h⟩:=zAD h
    exact ⟨rfl,rfl,kvs,rfl,h1,h2,(Option.some.inj h).symm⟩
   | cons _ _=>cases h
  | _=>cases h
 | _=>cases h
section
variable {prog:Program} {w:World} {G:Heap} {ga:Addr×Addr} {mg:Str→Option Value} {gcx:Nat→Option D} {call:Nat→List D→Option D} {rc:Nat}
variable (prog w G ga gcx call rc) in
def VOk (e:E):Prop:=∀(A:Around) (env:Env) (P:Addr→Prop) (fr:Frm) (s:Shared) (Q:Value→Shared→Prop) (E:Value→Shared→Prop) (d:D),Cx w G ga A env P fr s rc→(Ck e).k env.scope=true→
  (Ev gcx call e).v fr=some d→(∀v s',Keeps s s'→RdW P s'.heap v d→Q v s')→wpAny (model prog w) A (eval (up nm e) env) Q E s
theorem SE.ofV {e:E} (hv:VOk prog w G ga gcx call rc e) (hp: ∀fr,(Ev gcx call e).p fr=(Ev gcx call e).v fr) (ht: ∀fr,(Ev gcx call e).t fr=bnd ((Ev gcx call e).v fr) zFR)
  (he: ∀env,isTrue (up nm e) env (eval (up nm e) env)=(do let v←eval (up nm e) env; standAt (up nm e).pos; holding [v] (truthy v))):SE prog w G ga gcx call rc e:=
 ⟨hv,fun A env P fr s Q E d cx hk h hQ=>hv A env P fr s Q E d cx hk (hp fr▸h) fun v s' k r=>hQ v s' k (.inl r),fun A env P fr s Q E c cx hk h hQ=>SE.truthOf hv cx hk (ht fr▸h) hQ (he env)⟩
theorem zAN {a b:Bool} (h:zAA a b false=true):a=true∧b=true:=by
 induction a with
 | true=>exact ⟨rfl,h⟩
 | false=>cases h
theorem RdW.fromG {P:Addr→Prop} {h:Heap} {v:Value} {d:D} (hg: ∀a o,G.get? a=some o→h.get? a=some o∧¬P a) (r:RdW (fun V=>False) G v d):RdW P h v d:=
 r.step (fun a o V e=>(hg a o e).1) fun a o e pa=>(hg a o e).2 pa
theorem zAK.fromG {P:Addr→Prop} {h:Heap} {v:List Value} {d:List D} (hg: ∀a o,G.get? a=some o→h.get? a=some o∧¬P a) (r:zAK (fun V=>False) G v d):zAK P h v d:=
 r.step (fun a o V e=>(hg a o e).1) fun a o e pa=>(hg a o e).2 pa
theorem zAc.fromG {P:Addr→Prop} {h:Heap} {a:Addr} {kvs:List (D×D)} (hg: ∀a o,G.get? a=some o→h.get? a=some o∧¬P a) (r:zAc w (fun V=>False) G a kvs):zAc w P h a kvs:=
 zAc.step r (fun o e=>(hg a o e).1) (fun a o V e=>(hg a o e).1) fun a o e pa=>(hg a o e).2 pa
theorem PkR.fromG {P:Addr→Prop} {h:Heap} {v:Value} {d:D} (hg: ∀a o,G.get? a=some o→h.get? a=some o∧¬P a) (r:PkR w (fun V=>False) G v d):PkR w P h v d:=by
 rcases r with r | r
 ·exact .inl (r.fromG hg)
 ·refine .inr ?_
  induction d using PyData.casesOn with
  | list xs=>obtain ⟨a,vs,n,e,g,r⟩:=r; exact ⟨a,vs,n,e,(hg _ _ g).1,r.fromG hg⟩
  | dict kvs=>obtain ⟨a,e,r⟩:=r; exact ⟨a,e,r.fromG hg⟩
  | _=>exact r.elim
theorem zBf {A:Around} {env:Env} {P:Addr→Prop} {fr:Frm} {s:Shared} {Q:Value→Shared→Prop} {E:Value→Shared→Prop} {n:Nat} {p:Pos} {y:Str} {v:Value} (W:Wd w G ga mg gcx) (cx:Cx w G ga A env P fr s n)
  (hk:zDP (env.scope.names.lookup y)=true) (hy:(y==("__debug__":Str))=false) (hv:mg y=some v) (hQ:Q v s):wpAny (model prog w) A (eval (.Name y p) env) Q E s:=by
 refine Calls.Name_function_global cx.ok.kind (zGf hk) ?_ hy
 exact Calls.loadGlobal_global (by rw [cx.gl.1]; exact W.ns.keeps fun b o e=>(cx.ok.glob b o e).1) hv hQ
theorem zJm (W:Wd w G ga mg gcx) {x:Nat} {p:Pos}:SE prog w G ga gcx call rc (.glb x p):=by
 have hv:VOk prog w G ga gcx call rc (.glb x p):=by
  intro A env P fr s Q E d cx hk h hQ
  obtain ⟨d',h1,h2⟩:=zAB (show bnd (gcx x) (fun d=>zEJ d (fun V=>none) (some d))=some d from h)
  obtain ⟨v,e1,r⟩:=W.con x d' h1
  refine zBf W cx hk (zBT x) e1 (hQ v s (Keeps.refl s) ?_)
  have hd:d'=d:=by cases d' <;> cases h2 <;> rfl
  subst hd
  rcases r.fromG cx.ok.glob with r | r
  ·exact r
  ·induction d' using PyData.casesOn with
   | list xs=>
    rcases W.con x _ h1 with ⟨v',e1',r'⟩
    rw [e1] at e1'; cases e1'
    rcases r' with r' | ⟨a,vs,n,e,g,q⟩
    ·exact r'.fromG cx.ok.glob
    ·subst e; exact .list (cx.ok.glob _ _ g).1 (cx.ok.glob _ _ g).2 (q.fromG cx.ok.glob)
   | dict _=>cases h2
   | _=>exact r.elim
 refine ⟨hv,fun A env P fr s Q E d cx hk h hQ=> ?_,fun A env P fr s Q E c cx hk h hQ=>SE.truthOf hv cx hk h hQ⟩
 obtain ⟨v,e1,r⟩:=W.con x d (show gcx x=some d from h)
 exact zBf W cx hk (zBT x) e1 (hQ v s (Keeps.refl s) (r.fromG cx.ok.glob))
theorem zJh {a:E} {p:Pos} (ha:SE prog w G ga gcx call rc a):SE prog w G ga gcx call rc (.neg a p):=by
 refine SE.ofV ?_ (fun V=>rfl) (fun V=>rfl) (fun V=>rfl)
 intro A env P fr s Q E d cx hk h hQ
 obtain ⟨x,h1,h2⟩:=zAB (show bnd ((Ev gcx call a).v fr) negR=some d from h)
 exact wpAny_UnaryOp (ha.v A env P fr s _ E x cx hk h1 fun v s₁ q1 r1=>zIl h2 r1 fun u s₂ q2 r2=>hQ u s₂ (Keeps.trans q1 q2) r2)
theorem zHM {a:E} {p:Pos} (ha:SE prog w G ga gcx call rc a):SE prog w G ga gcx call rc (.nott a p):=by
 have hv:VOk prog w G ga gcx call rc (.nott a p):=by
  intro A env P fr s Q E d cx hk h hQ
  obtain ⟨x,h1,h2⟩:=zAB (show bnd ((Ev gcx call a).v fr) (fun d=>bnd (zFR d) fun b=>zHp (zEm b))=some d from h)
  obtain ⟨c,h3,h4⟩:=zAB h2
  cases h4
  refine wpAny_UnaryOp (ha.v A env P fr s _ E x cx hk h1 fun v s₁ q1 r1=>not_of (zCd h3 r1 (hQ _ s₁ q1 ?_)))
  rw [zCh]; exact .bool _
 refine ⟨hv,fun A env P fr s Q E d cx hk h hQ=>hv A env P fr s Q E d cx hk h fun v s' k r=>hQ v s' k (.inl r),fun A env P fr s Q E c cx hk h hQ=> ?_⟩
 obtain ⟨b,h1,h2⟩:=zAB (show bnd ((Ev gcx call a).t fr) (fun b=>some (zEm b))=some c from h)
 cases h2
 refine wpAny_isTrue_Not (ha.t A env P fr s _ E b cx hk h1 fun s' k=> ?_)
 rw [←zCh]; exact hQ s' k
theorem zJl {t b o:E} {p:Pos} (ht:SE prog w G ga gcx call rc t) (hb:SE prog w G ga gcx call rc b) (ho:SE prog w G ga gcx call rc o):SE prog w G ga gcx call rc (.ite t b o p):=by
 have hv:VOk prog w G ga gcx call rc (.ite t b o p):=by
  intro A env P fr s Q E d cx hk h hQ
  obtain ⟨k1,k2⟩:=zAN (show zAA ((Ck t).k env.scope) (zAA ((Ck b).k env.scope) ((Ck o).k env.scope) false) false=true from hk)
  obtain ⟨k2,k3⟩:=zAN k2
  obtain ⟨c,h1,h2⟩:=zAB (show bnd ((Ev gcx call t).t fr) (fun c=>zAA c ((Ev gcx call b).v fr) ((Ev gcx call o).v fr))=some d from h)
  refine wpAny_IfExp (ht.t A env P fr s _ E c cx k1 h1 fun s₁ q1=> ?_)
  induction c with
  | true=>exact hb.v A env P fr s₁ _ E d (cx.keeps q1) k2 h2 fun v s₂ q2 r2=>hQ v s₂ (Keeps.trans q1 q2) r2
  | false=>exact ho.v A env P fr s₁ _ E d (cx.keeps q1) k3 h2 fun v s₂ q2 r2=>hQ v s₂ (Keeps.trans q1 q2) r2
 refine ⟨hv,fun A env P fr s Q E d cx hk h hQ=>hv A env P fr s Q E d cx hk h fun v s' k r=>hQ v s' k (.inl r),fun A env P fr s Q E c cx hk h hQ=> ?_⟩
 obtain ⟨k1,k2⟩:=zAN (show zAA ((Ck t).k env.scope) (zAA ((Ck b).k env.scope) ((Ck o).k env.scope) false) false=true from hk)
 obtain ⟨k2,k3⟩:=zAN k2
 obtain ⟨q,h1,h2⟩:=zAB (show bnd ((Ev gcx call t).t fr) (fun c=>zAA c ((Ev gcx call b).t fr) ((Ev gcx call o).t fr))=some c from h)
 rw [arm_isTrue_IfExp]
 refine wpAny_bind (ht.t A env P fr s _ E q cx k1 h1 fun s₁ q1=> ?_)
 induction q with
 | true=>exact hb.t A env P fr s₁ _ E c (cx.keeps q1) k2 h2 fun s₂ q2=>hQ s₂ (Keeps.trans q1 q2)
 | false=>exact ho.t A env P fr s₁ _ E c (cx.keeps q1) k3 h2 fun s₂ q2=>hQ s₂ (Keeps.trans q1 q2)
end
section
variable {prog:Program} {w:World} {G:Heap} {ga:Addr×Addr} {gcx:Nat→Option D} {call:Nat→List D→Option D} {rc:Nat}
theorem zAV {env:Env} {r:List Expr}: ∀{h:E},(∀e,h≠ .raw e)→starEach (up nm h :: r) env=(false,eval (up nm h) env) :: starEach r env
 | .raw e,x=>absurd rfl (x e)
 | .nil,_=>rfl | .cons _ _,_=>rfl | .cst _ _ _,_=>rfl | .var _ _,_=>rfl | .glb _ _,_=>rfl | .bin _ _ _ _,_=>rfl | .neg _ _,_=>rfl | .nott _ _,_=>rfl
 | .ite _ _ _ _,_=>rfl | .boo _ _ _,_=>rfl | .cmp _ _ _ _,_=>rfl | .tup _ _ _,_=>rfl | .lst _ _,_=>rfl | .dct _,_=>rfl | .sub _ _ _,_=>rfl | .slc _ _ _ _,_=>rfl
 | .call _ _ _ _,_=>rfl | .blt _ _ _ _,_=>rfl | .meth _ _ _ _ _,_=>rfl | .lco _ _ _ _ _,_=>rfl | .dco _ _ _ _ _ _,_=>rfl | .gen _ _ _,_=>rfl
theorem zAk {h:E} {fr:Frm} {d:D} (e:(Ev gcx call h).v fr=some d): ∀x,h≠ .raw x:=fun x y=>by subst y; cases e
theorem zEL {h:E} {fr:Frm} {d:D} (e:(Ev gcx call h).p fr=some d): ∀x,h≠ .raw x:=fun x y=>by subst y; cases e
theorem zAP {pos:Pos} {t:Sem Value} {r:List (Bool×Sem Value)}:backTo pos ((false,t) :: r)=(false,t) :: backTo pos r:=rfl
structure SL (prog:Program) (w:World) (G:Heap) (ga:Addr×Addr) (gcx:Nat→Option D) (call:Nat→List D→Option D) (rc:Nat) (e:E):Prop where
 l: ∀(pos:Pos) (A:Around) (env:Env) (P:Addr→Prop) (fr:Frm) (s:Shared) (Q:List Value→Shared→Prop) (E:Value→Shared→Prop) (ds:List D),Cx w G ga A env P fr s rc→(Ck e).k env.scope=true→
  (Ev gcx call e).l fr=some ds→(∀vs s',Keeps s s'→zAK P s'.heap vs ds→Q vs s')→wpAny (model prog w) A (spliced (backTo pos (starEach (ups nm e) env))) Q E s
 lp: ∀(pos:Pos) (A:Around) (env:Env) (P:Addr→Prop) (fr:Frm) (s:Shared) (Q:List Value→Shared→Prop) (E:Value→Shared→Prop) (ds:List D),Cx w G ga A env P fr s rc→(Ck e).k env.scope=true→
  (Ev gcx call e).lp fr=some ds→(∀vs s',Keeps s s'→(vs=[]∧ds=[]∨∃v d vr dr,vs=v :: vr∧ds=d :: dr∧PkR w P s'.heap v d∧zAK P s'.heap vr dr)→Q vs s')→
  wpAny (model prog w) A (spliced (backTo pos (starEach (ups nm e) env))) Q E s
 a: ∀(o:BoolOp) (A:Around) (env:Env) (P:Addr→Prop) (fr:Frm) (s:Shared) (Q:Bool→Shared→Prop) (E:Value→Shared→Prop) (c:Bool),Cx w G ga A env P fr s rc→(Ck e).k env.scope=true→
  (Ev gcx call e).a o fr=some c→(∀s',Keeps s s'→Q c s')→wpAny (model prog w) A (allTrue o (ups nm e) env) Q E s
 b: ∀(pos:Pos) (o:BoolOp) (A:Around) (env:Env) (P:Addr→Prop) (fr:Frm) (s:Shared) (Q:Value→Shared→Prop) (E:Value→Shared→Prop) (d:D),Cx w G ga A env P fr s rc→(Ck e).k env.scope=true→
  (Ev gcx call e).b o fr=some d→(∀v s',Keeps s s'→RdW P s'.heap v d→Q v s')→wpAny (model prog w) A (boolOp pos o (evalEach (ups nm e) env)) Q E s
 z:(Ev gcx call e).z=true→ups nm e=[]
 nz: ∀o fr d,(Ev gcx call e).b o fr=some d→ups nm e≠[]
theorem zNK:SL prog w G ga gcx call rc .nil where
 l:=fun pos A env P fr s Q E ds cx hk h hQ=>by
  have h:some []=some ds:=h
  cases h
  exact Calls.spliced_nil (hQ [] s (Keeps.refl s) .nil)
 lp:=fun pos A env P fr s Q E ds cx hk h hQ=>by
  have h:some []=some ds:=h
  cases h
  exact Calls.spliced_nil (hQ [] s (Keeps.refl s) (.inl ⟨rfl,rfl⟩))
 a:=fun o A env P fr s Q E c cx hk h hQ=>by
  show wpAny _ A (allTrue o [] env) Q E s
  rw [arm_allTrue_nil]
  induction o with
  | And=>cases (show some true=some c from h); exact wpAny_pure (hQ s (Keeps.refl s))
  | Or=>cases (show some false=some c from h); exact wpAny_pure (hQ s (Keeps.refl s))
 b:=fun pos o A env P fr s Q E d cx hk h hQ=>by cases (show none=some d from h)
 z:=fun V=>rfl
 nz:=fun o fr d h=>by cases (show none=some d from h)
theorem zBH {h t:E} {sc:Scope} (hk:(Ck (.cons h t)).k sc=true):(Ck h).k sc=true∧(Ck t).k sc=true:=zAN (show zAA ((Ck h).k sc) ((Ck t).k sc) false=true from hk)
theorem zHL {h t:E} (sh:SE prog w G ga gcx call rc h) (st:SL prog w G ga gcx call rc t):SL prog w G ga gcx call rc (.cons h t) where
 l:=fun pos A env P fr s Q E ds cx hk hh hQ=>by
  obtain ⟨k1,k2⟩:=zBH hk
  obtain ⟨d,h1,hh⟩:=zAB (show bnd ((Ev gcx call h).v fr) (fun d=>bnd ((Ev gcx call t).l fr) fun ds=>some (d :: ds))=some ds from hh)
  obtain ⟨dr,h2,hh⟩:=zAB hh
  cases hh
  rw [zAV (zAk h1),zAP]
  refine Calls.spliced_cons (sh.v A env P fr s _ E d cx k1 h1 fun v s₁ q1 r1=> ?_)
  exact st.l pos A env P fr s₁ _ E dr (cx.keeps q1) k2 h2 fun vs s₂ q2 r2=>hQ (v :: vs) s₂ (Keeps.trans q1 q2) (.cons (RdW.keeps r1 q2) r2)
 lp:=fun pos A env P fr s Q E ds cx hk hh hQ=>by
  obtain ⟨k1,k2⟩:=zBH hk
  obtain ⟨d,h1,hh⟩:=zAB (show bnd ((Ev gcx call h).p fr) (fun d=>bnd ((Ev gcx call t).l fr) fun ds=>some (d :: ds))=some ds from hh)
  obtain ⟨dr,h2,hh⟩:=zAB hh
  cases hh
  rw [zAV (zEL h1),zAP]
  refine Calls.spliced_cons (sh.p A env P fr s _ E d cx k1 h1 fun v s₁ q1 r1=> ?_)
  exact st.l pos A env P fr s₁ _ E dr (cx.keeps q1) k2 h2 fun vs s₂ q2 r2=>hQ (v :: vs) s₂ (Keeps.trans q1 q2) (.inr ⟨v,d,vs,dr,rfl,rfl,r1.keep fun V V e=>Keeps.get q2 e,r2⟩)
 a:=fun o A env P fr s Q E c cx hk hh hQ=>by
  obtain ⟨k1,k2⟩:=zBH hk
  obtain ⟨b,h1,hh⟩:=zAB (show bnd ((Ev gcx call h).t fr) (fun c=>andC o c ((Ev gcx call t).a o fr))=some c from hh)
  induction o with
  | And=>
   refine wpAny_allTrue_And_cons (sh.t A env P fr s _ E b cx k1 h1 fun s₁ q1=> ?_)
   induction b with
   | true=>exact st.a .And A env P fr s₁ _ E c (cx.keeps q1) k2 hh fun s₂ q2=>hQ s₂ (Keeps.trans q1 q2)
   | false=>cases (show some false=some c from hh); exact hQ s₁ q1
  | Or=>
   refine wpAny_allTrue_Or_cons (sh.t A env P fr s _ E b cx k1 h1 fun s₁ q1=> ?_)
   induction b with
   | true=>cases (show some true=some c from hh); exact hQ s₁ q1
   | false=>exact st.a .Or A env P fr s₁ _ E c (cx.keeps q1) k2 hh fun s₂ q2=>hQ s₂ (Keeps.trans q1 q2)
 b:=fun pos o A env P fr s Q E d cx hk hh hQ=>by
  obtain ⟨k1,k2⟩:=zBH hk
  obtain ⟨x,h1,hh⟩:=zAB (show bnd ((Ev gcx call h).v fr) (fun d=>zAA (Ev gcx call t).z (some d) (bnd (zFR d) fun c=>andV o c d ((Ev gcx call t).b o fr)))=some d from hh)
  rw [arm_evalEach_cons]
  cases hz:(Ev gcx call t).z with
  | true=>
   rw [hz,zAJ] at hh
   cases hh
   rw [st.z hz,arm_evalEach_nil]
   show wpAny _ A (eval (up nm h) env) Q E s
   exact sh.v A env P fr s _ E _ cx k1 h1 hQ
  | false=>
   rw [hz,zAF] at hh
   obtain ⟨c,h2,hh⟩:=zAB hh
   cases hr:ups nm t with
   | nil=>
    rw [arm_evalEach_nil]
    show wpAny _ A (eval (up nm h) env) Q E s
    have hx:x=d:=by
     induction o with
     | And=>
      induction c with
      | true=>exact absurd hr (st.nz _ _ _ (show (Ev gcx call t).b .And fr=some d from hh))
      | false=>cases (show some x=some d from hh); rfl
     | Or=>
      induction c with
      | true=>cases (show some x=some d from hh); rfl
      | false=>exact absurd hr (st.nz _ _ _ (show (Ev gcx call t).b .Or fr=some d from hh))
    subst hx
    exact sh.v A env P fr s _ E x cx k1 h1 hQ
   | cons e r=>
    have ih:=fun s₁ (q1:Keeps s s₁) (hb:(Ev gcx call t).b o fr=some d)=>st.b pos o A env P fr s₁ Q E d (cx.keeps q1) k2 hb fun v s₂ q2 r2=>hQ v s₂ (Keeps.trans q1 q2) r2
    rw [hr,arm_evalEach_cons] at ih
    rw [arm_evalEach_cons]
    show wpAny _ A (do let v←eval (up nm h) env; standAt pos; let t←holding [v] (truthy v); match o,t with | .And,false | .Or,true=>pure v | _,_=>boolOp pos o (eval e env :: evalEach r env)) Q E s
    refine wpAny_bind (sh.v A env P fr s _ E x cx k1 h1 fun v s₁ q1 r1=> ?_)
    refine wpAny_bind (wpAny_standAt (wpAny_bind (wpAny_holding (zCd h2 r1 ?_))))
    induction o with
    | And=>
     induction c with
     | true=>exact ih s₁ q1 hh
     | false=>cases (show some x=some d from hh); exact wpAny_pure (hQ v s₁ q1 r1)
    | Or=>
     induction c with
     | true=>cases (show some x=some d from hh); exact wpAny_pure (hQ v s₁ q1 r1)
     | false=>exact ih s₁ q1 hh
 z:=by
  intro hz
  have hz:false=true:=hz
  exact absurd hz Bool.false_ne_true
 nz:=fun V V V V x=>List.cons_ne_nil (up nm h) (ups nm t) x
end
section
variable {prog:Program} {w:World} {G:Heap} {ga:Addr×Addr} {gcx:Nat→Option D} {call:Nat→List D→Option D} {rc:Nat}
theorem ckn: ∀e:E,(Ck e).n=(ups nm e).length
 | .cons h t=>by
  have e:(Ck (.cons h t)).n=Nat.succ (Ck t).n:=rfl
  rw [e,ckn t]; rfl
 | .neg a p=>rfl | .nott a p=>rfl | .raw e=>rfl
 | .nil=>rfl | .cst _ _ _=>rfl | .var _ _=>rfl | .glb _ _=>rfl | .bin _ _ _ _=>rfl
 | .ite _ _ _ _=>rfl | .boo _ _ _=>rfl | .cmp _ _ _ _=>rfl | .tup _ _ _=>rfl | .lst _ _=>rfl | .dct _=>rfl | .sub _ _ _=>rfl | .slc _ _ _ _=>rfl
 | .call _ _ _ _=>rfl | .blt _ _ _ _=>rfl | .meth _ _ _ _ _=>rfl | .lco _ _ _ _ _=>rfl | .dco _ _ _ _ _ _=>rfl | .gen _ _ _=>rfl
theorem zNR {op:CmpOp}: ∀{h:E},(∀e,h≠ .raw e)→behindInMarks op (up nm h)=false
 | .raw e,x=>absurd rfl (x e)
 | .nil,_=>rfl | .cons _ _,_=>rfl | .cst _ _ _,_=>rfl | .var _ _,_=>rfl | .glb _ _,_=>rfl | .bin _ _ _ _,_=>rfl | .neg _ _,_=>rfl | .nott _ _,_=>rfl
 | .ite _ _ _ _,_=>rfl | .boo _ _ _,_=>rfl | .cmp _ _ _ _,_=>rfl | .tup _ _ _,_=>rfl | .lst _ _,_=>rfl | .dct _,_=>rfl | .sub _ _ _,_=>rfl | .slc _ _ _ _,_=>rfl
 | .call _ _ _ _,_=>rfl | .blt _ _ _ _,_=>rfl | .meth _ _ _ _ _,_=>rfl | .lco _ _ _ _ _,_=>rfl | .dco _ _ _ _ _ _,_=>rfl | .gen _ _ _,_=>rfl
theorem zCP {h:E} (sh:SE prog w G ga gcx call rc h) {b:Bool} {A:Around} {env:Env} {P:Addr→Prop} {fr:Frm} {s:Shared} {Q:Value→Shared→Prop} {E:Value→Shared→Prop} {d:D}
  (cx:Cx w G ga A env P fr s rc) (hk:(Ck h).k env.scope=true) (hh:zAA b ((Ev gcx call h).p fr) ((Ev gcx call h).v fr)=some d)
  (hQ: ∀v s',Keeps s s'→zAA b (PkR w P s'.heap v d) (RdW P s'.heap v d)→Q v s'):wpAny (model prog w) A (eval (up nm h) env) Q E s:=by
 induction b with
 | true=>exact sh.p A env P fr s Q E d cx hk hh hQ
 | false=>exact sh.v A env P fr s Q E d cx hk hh hQ
theorem zFA {h:E} {b:Bool} {fr:Frm} {d:D} (hh:zAA b ((Ev gcx call h).p fr) ((Ev gcx call h).v fr)=some d): ∀x,h≠ .raw x:=by
 induction b with
 | true=>exact zEL hh
 | false=>exact zAk hh
structure SC (prog:Program) (w:World) (G:Heap) (ga:Addr×Addr) (gcx:Nat→Option D) (call:Nat→List D→Option D) (rc:Nat) (e:E):Prop where
 c: ∀(pos:Pos) (A:Around) (env:Env) (P:Addr→Prop) (fr:Frm) (s:Shared) (Q:Value→Shared→Prop) (E:Value→Shared→Prop) (va:Value) (a:D) (ops:List CmpOp) (r:Bool),Cx w G ga A env P fr s rc→
  (Ck e).k env.scope=true→ops.length=(Ck e).n→RdW P s.heap va a→(Ev gcx call e).c fr a ops=some r→(∀s',Keeps s s'→Q (.bool r) s')→
  wpAny (model prog w) A (compareChain pos va ops (markedEach ops (ups nm e) (evalEach (ups nm e) env))) Q E s
 t: ∀(pos:Pos) (A:Around) (env:Env) (P:Addr→Prop) (fr:Frm) (s:Shared) (Q:Bool→Shared→Prop) (E:Value→Shared→Prop) (va:Value) (a:D) (ops:List CmpOp) (r:Bool),Cx w G ga A env P fr s rc→
  (Ck e).k env.scope=true→ops.length=(Ck e).n→RdW P s.heap va a→(Ev gcx call e).c fr a ops=some r→(∀s',Keeps s s'→Q r s')→
  wpAny (model prog w) A (testChain pos va ops (markedEach ops (ups nm e) (evalEach (ups nm e) env))) Q E s
theorem zII {o:CmpOp} {h t:E} {env:Env} (hn:[o].length=(Ck (.cons h t)).n) (hm:behindInMarks o (up nm h)=false):
  markedEach [o] (ups nm (.cons h t)) (evalEach (ups nm (.cons h t)) env)=[eval (up nm h) env]:=by
 have hz:(ups nm t).length=0:=by rw [←ckn t]; exact (Nat.succ.inj hn).symm
 have hz:ups nm t=[]:=List.eq_nil_of_length_eq_zero hz
 rw [show ups nm (.cons h t)=up nm h :: ups nm t from rfl,hz,arm_evalEach_cons,arm_evalEach_nil]
 show [markedBehindIn o (up nm h) (eval (up nm h) env)]=_
 rw [markedBehindIn_of_false hm]
theorem zIF {o o':CmpOp} {os:List CmpOp} {h t:E} {env:Env}:
  markedEach (o :: o' :: os) (ups nm (.cons h t)) (evalEach (ups nm (.cons h t)) env)=eval (up nm h) env :: markedEach (o' :: os) (ups nm t) (evalEach (ups nm t) env):=by
 rw [arm_evalEach_cons]
 rfl
theorem zCq {M:Model} {A:Around} {E:Value→Shared→Prop} {s:Shared} {vs keep:List Value} {Q:Unit→Shared→Prop} (h:Q () s):wpAny M A (release vs keep) Q E s:=
 fun Γ p V=>by rw [Sem.wp_release]; exact h
theorem zNP {o:CmpOp} {P:Addr→Prop} {h:Heap} {v:Value} {b:D} {α:Type} {x:Option α} {r:α} (hh:zAA (zLN o) none x=some r) (rb:zAA (zLN o) (PkR w P h v b) (RdW P h v b)):x=some r∧RdW P h v b:=by
 cases e:zLN o with
 | true=>rw [e] at hh; cases hh
 | false=>rw [e] at hh rb; exact ⟨hh,rb⟩
theorem zOF {h t:E} (sh:SE prog w G ga gcx call rc h) (st:SC prog w G ga gcx call rc t):SC prog w G ga gcx call rc (.cons h t) where
 c:=fun pos A env P fr s Q E va a ops r cx hk hn ra hh hQ=>by
  obtain ⟨k1,k2⟩:=zBH hk
  induction ops using List.casesOn with
  | nil=>cases (show none=some r from hh)
  | cons o os=>
   obtain ⟨b,h1,hh⟩:=zAB (show bnd (zAA (zLN o) ((Ev gcx call h).p fr) ((Ev gcx call h).v fr)) (fun b=>bnd (cmpR o a b) fun r=>onL os (some r) fun V V=>zAA (zLN o) none (zAA r ((Ev gcx call t).c fr b os) (some false)))=some r from hh)
   obtain ⟨r1,h2,hh⟩:=zAB hh
   induction os using List.casesOn with
   | nil=>
    cases (show some r1=some r from hh)
    rw [zII hn (zNR (zFA h1))]
    refine wpAny_bind (wpAny_holding (zCP sh cx k1 h1 fun v s₁ q1 rb=>wpAny_bind (wpAny_standAt (wpAny_operating ?_))))
    have ra':=RdW.keeps ra q1
    have cx':=(cx.keeps q1)
    exact zCV h2 ra' rb cx'.units fun s₂ q2=>hQ s₂ (Keeps.trans q1 q2)
   | cons o' os=>
    rw [zIF]
    show wpAny _ A (do let rv←holding [va] (eval (up nm h) env); standAt pos; let c←holding [va,rv] (compareOp o va rv); release [va,rv] [c]; if←holding [c,rv] (truthy c) then compareChain pos rv (o' :: os) (markedEach (o' :: os) (ups nm t) (evalEach (ups nm t) env)) else pure c) Q E s
    refine wpAny_bind (wpAny_holding (zCP sh cx k1 h1 fun v s₁ q1 rb=>wpAny_bind (wpAny_standAt (wpAny_bind (wpAny_holding ?_)))))
    have ra':=RdW.keeps ra q1
    have cx':=(cx.keeps q1)
    obtain ⟨hh,rb'⟩:=zNP hh rb
    have hn':(o' :: os).length=(Ck t).n:=by
     have e:(Ck (.cons h t)).n=Nat.succ (Ck t).n:=rfl
     rw [e] at hn; simpa using hn
    have fin: ∀s₂,Keeps s₁ s₂→wpAny (model prog w) A (release [va,v] [.bool r1] >>= fun V=>holding [.bool r1,v] (truthy (.bool r1)) >>= fun c=>if c=true then compareChain pos v (o' :: os) (markedEach (o' :: os) (ups nm t) (evalEach (ups nm t) env)) else pure (.bool r1)) Q E s₂:=fun s₂ q2=>by
     refine wpAny_bind (zCq (wpAny_bind (wpAny_holding (wpAny_truthy_bool ?_))))
     induction r1 with
     | true=>exact st.c pos A env P fr s₂ Q E v b (o' :: os) r (cx'.keeps q2) k2 hn' (RdW.keeps rb' q2) hh fun s₃ q3=>hQ s₃ (Keeps.trans (Keeps.trans q1 q2) q3)
     | false=>cases (show some false=some r from hh); exact wpAny_pure (hQ s₂ (Keeps.trans q1 q2))
    exact zCV h2 ra' rb cx'.units fin
 t:=fun pos A env P fr s Q E va a ops r cx hk hn ra hh hQ=>by
  obtain ⟨k1,k2⟩:=zBH hk
  induction ops using List.casesOn with
  | nil=>cases (show none=some r from hh)
  | cons o os=>
   obtain ⟨b,h1,hh⟩:=zAB (show bnd (zAA (zLN o) ((Ev gcx call h).p fr) ((Ev gcx call h).v fr)) (fun b=>bnd (cmpR o a b) fun r=>onL os (some r) fun V V=>zAA (zLN o) none (zAA r ((Ev gcx call t).c fr b os) (some false)))=some r from hh)
   obtain ⟨r1,h2,hh⟩:=zAB hh
   induction os using List.casesOn with
   | nil=>
    cases (show some r1=some r from hh)
    rw [zII hn (zNR (zFA h1))]
    refine wpAny_bind (wpAny_holding (zCP sh cx k1 h1 fun v s₁ q1 rb=>wpAny_bind (wpAny_standAt (wpAny_bind (wpAny_operating ?_)))))
    have ra':=RdW.keeps ra q1
    have cx':=(cx.keeps q1)
    have fin: ∀s₂,Keeps s₁ s₂→wpAny (model prog w) A (holding [.bool r] (truthy (.bool r))) Q E s₂:=fun s₂ q2=>wpAny_holding (wpAny_truthy_bool (hQ s₂ (Keeps.trans q1 q2)))
    exact zCV h2 ra' rb cx'.units fin
   | cons o' os=>
    rw [zIF]
    show wpAny _ A (do let rv←holding [va] (eval (up nm h) env); standAt pos; let c←holding [va,rv] (compareOp o va rv); release [va,rv] [c]; if←holding [c,rv] (truthy c) then testChain pos rv (o' :: os) (markedEach (o' :: os) (ups nm t) (evalEach (ups nm t) env)) else pure false) Q E s
    refine wpAny_bind (wpAny_holding (zCP sh cx k1 h1 fun v s₁ q1 rb=>wpAny_bind (wpAny_standAt (wpAny_bind (wpAny_holding ?_)))))
    have ra':=RdW.keeps ra q1
    have cx':=(cx.keeps q1)
    obtain ⟨hh,rb'⟩:=zNP hh rb
    have hn':(o' :: os).length=(Ck t).n:=by
     have e:(Ck (.cons h t)).n=Nat.succ (Ck t).n:=rfl
     rw [e] at hn; simpa using hn
    have fin: ∀s₂,Keeps s₁ s₂→wpAny (model prog w) A (release [va,v] [.bool r1] >>= fun V=>holding [.bool r1,v] (truthy (.bool r1)) >>= fun c=>if c=true then testChain pos v (o' :: os) (markedEach (o' :: os) (ups nm t) (evalEach (ups nm t) env)) else pure false) Q E s₂:=fun s₂ q2=>by
     refine wpAny_bind (zCq (wpAny_bind (wpAny_holding (wpAny_truthy_bool ?_))))
     induction r1 with
     | true=>exact st.t pos A env P fr s₂ Q E v b (o' :: os) r (cx'.keeps q2) k2 hn' (RdW.keeps rb' q2) hh fun s₃ q3=>hQ s₃ (Keeps.trans (Keeps.trans q1 q2) q3)
     | false=>cases (show some false=some r from hh); exact wpAny_pure (hQ s₂ (Keeps.trans q1 q2))
    exact zCV h2 ra' rb cx'.units fin
end
section
variable {prog:Program} {w:World} {G:Heap} {ga:Addr×Addr} {gcx:Nat→Option D} {call:Nat→List D→Option D} {rc:Nat}
theorem zJp {o:BoolOp} {l:E} {p:Pos} (sl:SL prog w G ga gcx call rc l):SE prog w G ga gcx call rc (.boo o l p):=by
 have hv:VOk prog w G ga gcx call rc (.boo o l p):=by
  intro A env P fr s Q E d cx hk h hQ
  rw [arm_eval_BoolOp]
  exact sl.b p o A env P fr s Q E d cx hk h hQ
 refine ⟨hv,fun A env P fr s Q E d cx hk h hQ=>hv A env P fr s Q E d cx hk h fun v s' k r=>hQ v s' k (.inl r),fun A env P fr s Q E c cx hk h hQ=> ?_⟩
 rw [arm_isTrue_BoolOp]
 exact sl.a o A env P fr s Q E c cx hk h hQ
theorem zJo {a:E} {ops:List CmpOp} {l:E} {p:Pos} (sa:SE prog w G ga gcx call rc a) (sc:SC prog w G ga gcx call rc l):SE prog w G ga gcx call rc (.cmp a ops l p):=by
 have ks: ∀{sc:Scope},(Ck (.cmp a ops l p)).k sc=true→(Ck a).k sc=true∧ops.length=(Ck l).n∧(Ck l).k sc=true:=fun {sc} hk=>by
  obtain ⟨k1,k2⟩:=zAN (show zAA ((Ck a).k sc) (zAA (Nat.beq (len ops) (Ck l).n) ((Ck l).k sc) false) false=true from hk)
  obtain ⟨k2,k3⟩:=zAN k2
  rw [zEx,zBb] at k2
  exact ⟨k1,of_decide_eq_true k2,k3⟩
 have hv:VOk prog w G ga gcx call rc (.cmp a ops l p):=by
  intro A env P fr s Q E d cx hk h hQ
  obtain ⟨k1,kn,k2⟩:=ks hk
  obtain ⟨x,h1,h⟩:=zAB (show bnd ((Ev gcx call a).v fr) (fun d=>bnd ((Ev gcx call l).c fr d ops) zHp)=some d from h)
  obtain ⟨r,h2,h⟩:=zAB h
  cases h
  rw [arm_eval_Compare]
  refine wpAny_bind (sa.v A env P fr s _ E x cx k1 h1 fun v s₁ q1 r1=> ?_)
  exact sc.c p A env P fr s₁ Q E v x ops r (cx.keeps q1) k2 kn r1 h2 fun s₂ q2=>hQ _ s₂ (Keeps.trans q1 q2) (.bool r)
 refine ⟨hv,fun A env P fr s Q E d cx hk h hQ=>hv A env P fr s Q E d cx hk h fun v s' k r=>hQ v s' k (.inl r),fun A env P fr s Q E c cx hk h hQ=> ?_⟩
 obtain ⟨k1,kn,k2⟩:=ks hk
 obtain ⟨x,h1,h⟩:=zAB (show bnd ((Ev gcx call a).v fr) (fun d=>(Ev gcx call l).c fr d ops)=some c from h)
 rw [arm_isTrue_Compare]
 refine wpAny_bind (sa.v A env P fr s _ E x cx k1 h1 fun v s₁ q1 r1=> ?_)
 exact sc.t p A env P fr s₁ Q E v x ops c (cx.keeps q1) k2 kn r1 h fun s₂ q2=>hQ s₂ (Keeps.trans q1 q2)
theorem zJf {l:E} {k:Nat} {p:Pos} (sl:SL prog w G ga gcx call rc l):SE prog w G ga gcx call rc (.tup l k p):=by
 refine SE.ofV ?_ (fun V=>rfl) (fun V=>rfl) (fun V=>rfl)
 intro A env P fr s Q E d cx hk h hQ
 obtain ⟨ds,h1,h2⟩:=zAB (show bnd ((Ev gcx call l).l fr) tupR=some d from h)
 obtain ⟨h3,h4⟩:=zAD (show zAA (zAI ds) (some (PyData.tuple ds)) none=some d from h2)
 cases h4
 rw [arm_eval_Tuple]
 refine wpAny_bind (wpAny_standAt (wpAny_bind (sl.l p A env P fr s _ E ds cx hk h1 fun vs s₁ q1 r1=> ?_)))
 have hl:vs.length≤sizeLine:=by
  have:=zAH h3
  rw [r1.length,sizeLine_eq]; lia
 exact wpAny_newTuple (zBy (vs:=vs.toArray) (cx.keeps q1).ok.live (by simpa using r1) fun v s₂ q2 r2=>hQ v s₂ (Keeps.trans q1 q2) r2) hl
theorem zJj {l:E} {p:Pos} (sl:SL prog w G ga gcx call rc l):SE prog w G ga gcx call rc (.lst l p):=by
 refine SE.ofV ?_ (fun V=>rfl) (fun V=>rfl) (fun V=>rfl)
 intro A env P fr s Q E d cx hk h hQ
 obtain ⟨ds,h1,h2⟩:=zAB (show bnd ((Ev gcx call l).l fr) zDk=some d from h)
 obtain ⟨h3,h4⟩:=zAD (show zAA (zAI ds) (some (PyData.list ds)) none=some d from h2)
 cases h4
 rw [arm_eval_List]
 refine wpAny_bind (wpAny_standAt (wpAny_bind (sl.l p A env P fr s _ E ds cx hk h1 fun vs s₁ q1 r1=> ?_)))
 have hl:vs.length≤sizeLine:=by
  have:=zAH h3
  rw [r1.length,sizeLine_eq]; lia
 exact wpAny_newList (zIE (vs:=vs.toArray) (cx.keeps q1).ok.live (by simpa using r1) fun v s₂ q2 r2=>hQ v s₂ (Keeps.trans q1 q2) r2) hl
variable (prog w G ga gcx call rc) in
def zJO (e:E):Prop:=∀(base:Expr) (A:Around) (env:Env) (P:Addr→Prop) (fr:Frm) (s:Shared) (Q:Value→Shared→Prop) (E:Value→Shared→Prop) (va:Value) (a d:D),Cx w G ga A env P fr s rc→(Ck e).k env.scope=true→
 PkR w P s.heap va a→(Ev gcx call e).s fr a=some d→(∀v s',Keeps s s'→RdW P s'.heap v d→Q v s')→
 ∀pos:Pos,wpAny (model prog w) A (do let i←holding [va] (eval (up nm e) env); standAt pos; let r←subscripted (up nm e) (←getitemInPython va) va i; letTemporaryGo base va r; pure r) Q E s
theorem zCv {A:Around} {E:Value→Shared→Prop} {s:Shared} {P:Addr→Prop} {va:Value} {a:D} {Q:Bool→Shared→Prop} (ra:PkR w P s.heap va a) (hT:(∃l,a= .list l)∨(∃l,a= .tuple l)∨∃l,a= .dict l)
  (hQ:Q false s):wpAny (model prog w) A (getitemInPython va) Q E s:=by
 rcases hT with ⟨l,rfl⟩ | ⟨l,rfl⟩ | ⟨l,rfl⟩
 ·obtain ⟨c,vs,n,rfl,g,_⟩:=zBC ra
  have hT:s.TypeIs (.ref c) "list":=⟨_,g,rfl⟩
  unfold getitemInPython
  exact wpAny_bind (wpAny_specialOf hT slot_list_getitem.lookup (wpAny_pure hQ))
 ·obtain ⟨c,vs,n,rfl,g,_⟩:=zDY ra
  have hT:s.TypeIs (.ref c) "tuple":=⟨_,g,rfl⟩
  unfold getitemInPython
  exact wpAny_bind (wpAny_specialOf hT F.slot_tuple_getitem.lookup (wpAny_pure hQ))
 ·obtain ⟨c,rfl,q⟩:=zDM ra
  obtain ⟨o,es,ep,ho,hc,_⟩:=q.at
  have hT:s.TypeIs (.ref c) "dict":=⟨o,ho,hc.1⟩
  unfold getitemInPython
  exact wpAny_bind (wpAny_specialOf hT slot_dict_getitem.lookup (wpAny_pure hQ))
theorem zDq {a i d:D} (h:zLO a i=some d):(∃l,a= .list l)∨(∃l,a= .tuple l)∨∃l,a= .dict l:=by
 induction a using PyData.casesOn with
 | list l=>exact .inl ⟨l,rfl⟩
 | tuple l=>exact .inr (.inl ⟨l,rfl⟩)
 | dict l=>exact .inr (.inr ⟨l,rfl⟩)
 | _=>cases h
theorem zAX {e:E} (se:SE prog w G ga gcx call rc e) (hs: ∀fr a,(Ev gcx call e).s fr a=bnd ((Ev gcx call e).v fr) (zLO a)) (hx: ∀o i,subscripted (up nm e) false o i=operate [o,i] (getItem o i)):zJO prog w G ga gcx call rc e:=by
 intro base A env P fr s Q E va a d cx hk ra h hQ pos
 rw [hs] at h
 obtain ⟨i,h1,h2⟩:=zAB h
 refine wpAny_bind (wpAny_holding (se.v A env P fr s _ E i cx hk h1 fun vi s₁ q1 r1=>wpAny_bind (wpAny_standAt ?_)))
 have ra':=ra.keep fun V V e=>Keeps.get q1 e
 refine wpAny_bind (zCv ra' (zDq h2) (wpAny_bind ?_))
 rw [hx]
 exact wpAny_operating (zBe h2 ra' r1 (cx.keeps q1).units (fun v s₂ q2 r2=>wpAny_bind (wpAny_letTemporaryGo (wpAny_pure (hQ v s₂ (Keeps.trans q1 q2) r2)))))
theorem zJg {v i:E} {p:Pos} (sv:SE prog w G ga gcx call rc v) (si:zJO prog w G ga gcx call rc i):SE prog w G ga gcx call rc (.sub v i p):=by
 refine SE.ofV ?_ (fun V=>rfl) (fun V=>rfl) (fun V=>rfl)
 intro A env P fr s Q E d cx hk h hQ
 obtain ⟨k1,k2⟩:=zAN (show zAA ((Ck v).k env.scope) ((Ck i).k env.scope) false=true from hk)
 obtain ⟨a,h1,h2⟩:=zAB (show bnd ((Ev gcx call v).p fr) (fun a=>(Ev gcx call i).s fr a)=some d from h)
 rw [arm_eval_Subscript]
 refine wpAny_bind (sv.p A env P fr s _ E a cx k1 h1 fun va s₁ q1 r1=> ?_)
 exact si (up nm v) A env P fr s₁ Q E va a d (cx.keeps q1) k2 r1 h2 (fun u s₂ q2 r2=>hQ u s₂ (Keeps.trans q1 q2) r2) p
end
section
variable {prog:Program} {w:World} {A:Around} {E:Value→Shared→Prop} {s:Shared} {P:Addr→Prop}
theorem zBa {r:D} {α:Type} {x:α} {o:Option α} (h:zAi r o none=some x):r= .none∧o=some x:=by
 cases r <;> first | exact ⟨rfl,h⟩ | cases h
theorem zBm {r:D} {α:Type} {x:α} {f:Int→Option α} (h:zAO r f none=some x): ∃i,r= .int i∧f i=some x:=by
 cases r <;> first | exact ⟨_,rfl,h⟩ | cases h
theorem zFU (items:Array Value):slicePick items none none (some (-1))=items.toList.reverse.toArray:=by
 unfold slicePick
 have e:sliceBounds none none (some (-1)) items.size=((items.size:Int) - 1, -1, -1):=rfl
 rw [e]
 have e2:sliceRange ((items.size:Int) - 1) (-1) (-1)=(List.range items.size).map fun (k:Nat)=>((items.size:Int) - 1 + (-1) * (k:Int)).toNat:=by
  unfold sliceRange
  have hc:(if ((-1:Int) > 0) then (if (items.size:Int) - 1 < -1 then (-1 - ((items.size:Int) - 1) + -1 - 1) / -1 else 0) else (if (items.size:Int) - 1 > -1 then ((items.size:Int) - 1 - -1 - -1 - 1) / (-(-1)) else 0))=(items.size:Int):=by
   rw [if_neg (by lia)]
   by_cases h:(items.size:Int) - 1 > -1
   ·rw [if_pos h]; simp
   ·rw [if_neg h]; lia
  simp only [hc]; rfl
 simp only [e2]
 congr 1
 apply List.ext_getElem?
 intro i
 rw [List.filterMap_map]
 have key: ∀n,n≤items.size→(List.range n).filterMap ((fun x=>items[x]?)∘fun (k:Nat)=>((items.size:Int) - 1 + (-1) * (k:Int)).toNat)=(items.toList.reverse.take n):=by
  intro n
  induction n with
  | zero=>intro _; simp
  | succ n ih=>
   intro hn
   rw [List.range_succ,List.filterMap_append,ih (by lia)]
   have hlt:n < items.toList.reverse.length:=by simp; lia
   rw [List.take_add_one,List.getElem?_eq_getElem hlt]
   have hi:((items.size:Int) - 1 + (-1) * (n:Int)).toNat=items.size - 1 - n:=by lia
   have hx:items[items.size - 1 - n]? =some items.toList.reverse[n]:=by
    rw [List.getElem_reverse]
    simp
   congr 1
   rw [List.filterMap_cons]
   have hc:((fun x=>items[x]?)∘fun (k:Nat)=>((items.size:Int) - 1 + (-1) * (k:Int)).toNat) n=some items.toList.reverse[n]:=by
    show items[((items.size:Int) - 1 + (-1) * (n:Int)).toNat]? =_
    rw [hi,hx]
   rw [hc]
   rfl
 rw [key items.size (Nat.le_refl _),List.take_of_length_le (by simp)]
theorem zGO {va vl vh vs:Value} {a lo hi st d:D} {sl:Addr} {Q:Value→Shared→Prop} (h:zHx a lo hi st=some d) (ra:PkR w P s.heap va a) (rl:RdW P s.heap vl lo) (rh:RdW P s.heap vh hi) (rs:RdW P s.heap vs st)
  (al: ∀x,P x→∃o,s.heap.get? x=some o) (hsl:s.heap.IsSliceOf sl vl vh vs) (hQ: ∀v s',Keeps s s'→RdW P s'.heap v d→Q v s'):wpAny (model prog w) A (getItem va (.ref sl)) Q E s:=by
 induction a using PyData.casesOn with
 | list xs=>
  obtain ⟨h1,h2⟩:=zAD (show zAA (zAI xs) (bnd (zNJ xs lo hi st) fun l=>some (PyData.list l)) none=some d from h)
  obtain ⟨ys,h3,h4⟩:=zAB h2
  cases h4
  obtain ⟨c,ws,n,rfl,g,r⟩:=zBC ra
  have hlen:=r.length
  have hsz:ws.size≤sizeLine:=by
   have:=zAH h1
   have e:ws.size=xs.length:=by rw [←hlen]; simp
   rw [e,sizeLine_eq]; lia
  have fin: ∀(lo' hi' st':Option Int),IsPart vl lo'→IsPart vh hi'→IsPart vs st'→st'≠some 0→zAK P s.heap (slicePick ws lo' hi' st').toList ys→wpAny (model prog w) A (getItem (.ref c) (.ref sl)) Q E s:=fun lo' hi' st' p1 p2 p3 h0 rr=>
   wpAny_getItem_list_slice (zAL g) hsl p1 p2 p3 h0 (zIE al rr hQ) hsz
  have hws:ws.size=xs.length:=by rw [←hlen]; simp
  induction lo using PyData.casesOn with
  | none=>
   rw [rl.noneInv] at fin hsl
   have h3:zAi st (zAO hi (fun j=>zAA (zAU j) (some (zBk (zBu (len xs) j) xs)) none) none) (zAi hi (zAO st (fun j=>zAA (eqI j (-1)) (some (rev xs)) none) none) none)=some ys:=h3
   induction st using PyData.casesOn with
   | none=>
    rw [rs.noneInv] at fin
    obtain ⟨j,rfl,h5⟩:=zBm (show zAO hi (fun j=>zAA (zAU j) (some (zBk (zBu (len xs) j) xs)) none) none=some ys from h3)
    obtain ⟨h6,h7⟩:=zAD h5
    cases h7
    obtain ⟨t,rfl⟩:=rh.intInv
    refine fin none (some j) none .none (.int j t) .none (by simp) ?_
    rw [zHw,zBb]
    induction j with
    | ofNat k=>
     have e:zBu xs.length (Int.ofNat k)=zAA (Nat.ble k xs.length) k xs.length:=rfl
     rw [e,zLK,show (Int.ofNat k)=(k:Int) from rfl,slicePick_upto']
     have:=r.take k
     by_cases hk:k≤xs.length
     ·rw [decide_eq_true hk,zAJ]; simpa using this
     ·rw [decide_eq_false hk,zAF,List.take_of_length_le (Nat.le_refl _)]
      rw [List.take_of_length_le (show xs.length≤k by lia)] at this
      simpa using this
    | negSucc k=>
     have e:zBu xs.length (Int.negSucc k)=xs.length - (k + 1):=rfl
     rw [e,show (Int.negSucc k)= -((k + 1:Nat):Int) from rfl,slicePick_butLast _ _ (by lia),hws]
     simpa using r.take (xs.length - (k + 1))
   | int j=>
    obtain ⟨rfl,h5⟩:=zBa (show zAi hi (zAO (.int j) (fun j=>zAA (eqI j (-1)) (some (rev xs)) none) none) none=some ys from h3)
    obtain ⟨h6,h7⟩:=zAD (show zAA (eqI j (-1)) (some (rev xs)) none=some ys from h5)
    cases h7
    rw [zDd] at h6
    have hj:j= -1:=of_decide_eq_true h6
    subst hj
    obtain ⟨t,rfl⟩:=rs.intInv
    rw [rh.noneInv] at fin
    refine fin none none (some (-1)) .none .none (.int _ t) (by simp) ?_
    rw [zFU,zEt]
    simpa using r.reverse
   | _=>
    obtain ⟨rfl,h5⟩:=zBa (show zAi hi none none=some ys from h3)
    cases h5
  | int i=>
   obtain ⟨rfl,h5⟩:=zBa (show zAi hi (zAi st (zAA (zAU i) (some (zEZ (zBu (len xs) i) xs)) none) none) none=some ys from h3)
   obtain ⟨rfl,h5⟩:=zBa h5
   obtain ⟨h6,h7⟩:=zAD h5
   cases h7
   obtain ⟨t,rfl⟩:=rl.intInv
   rw [rh.noneInv,rs.noneInv] at fin
   refine fin (some i) none none (.int i t) .none .none (by simp) ?_
   rw [zFp,zBb]
   induction i with
   | ofNat k=>
    have e:zBu xs.length (Int.ofNat k)=zAA (Nat.ble k xs.length) k xs.length:=rfl
    rw [e,zLK,show (Int.ofNat k)=(k:Int) from rfl,slicePick_from']
    have:=r.drop k
    by_cases hk:k≤xs.length
    ·rw [decide_eq_true hk,zAJ]; simpa using this
    ·rw [decide_eq_false hk,zAF,List.drop_eq_nil_of_le (Nat.le_refl _)]
     rw [List.drop_eq_nil_of_le (show xs.length≤k by lia)] at this
     simpa using this
   | negSucc k=>
    have e:zBu xs.length (Int.negSucc k)=xs.length - (k + 1):=rfl
    rw [e,show (Int.negSucc k)= -((k + 1:Nat):Int) from rfl,slicePick_last _ _ (by lia),hws]
    simpa using r.drop (xs.length - (k + 1))
  | _=>cases h3
 | tuple xs=>
  obtain ⟨h1,h2⟩:=zAD (show zAA (zAI xs) (bnd (zNI xs lo hi st) fun l=>some (PyData.tuple l)) none=some d from h)
  obtain ⟨ys,h3,h4⟩:=zAB h2
  cases h4
  obtain ⟨c,ws,n,rfl,g,r⟩:=zDY ra
  have hlen:=r.length
  have hws:ws.size=xs.length:=by rw [←hlen]; simp
  have hsz:ws.size≤sizeLine:=by
   have:=zAH h1
   rw [hws,sizeLine_eq]; lia
  obtain ⟨rfl,h5⟩:=zBa h3
  obtain ⟨rfl,h5⟩:=zBa h5
  obtain ⟨i,rfl,h5⟩:=zBm h5
  obtain ⟨t,rfl⟩:=rl.intInv
  rw [rh.noneInv,rs.noneInv] at hsl
  induction i with
  | ofNat k=>
   obtain ⟨h6,h7⟩:=zAD (show zAA (Nat.ble 1 k) (zAA (Nat.ble k (len xs)) (some (zEZ k xs)) none) none=some ys from h5)
   obtain ⟨h9,h8⟩:=zAD h7
   clear h7 h5
   cases h8
   rw [zLK] at h6 h9
   rw [zBb] at h9
   rw [zFp] at hQ
   have h6:=of_decide_eq_true h6; have h9:=of_decide_eq_true h9
   exact getItem_tuple_from (zAt g) hsl h6 (by lia) (zBy al (by simpa using r.drop k) hQ) hsz
  | negSucc k=>cases (show none=some ys from h5)
 | _=>cases h
end
section
variable {prog:Program} {w:World} {G:Heap} {ga:Addr×Addr} {gcx:Nat→Option D} {call:Nat→List D→Option D} {rc:Nat}
variable (prog w G ga gcx call rc) in
def SOp (e:E):Prop:=∀(A:Around) (env:Env) (P:Addr→Prop) (fr:Frm) (s:Shared) (Q:Value→Shared→Prop) (E:Value→Shared→Prop) (d:D),Cx w G ga A env P fr s rc→(Ck e).k env.scope=true→
  (Ev gcx call e).o fr=some d→(∀v s',Keeps s s'→RdW P s'.heap v d→Q v s')→wpAny (model prog w) A (evalPart (upo nm e) env) Q E s
theorem zPZ:SOp prog w G ga gcx call rc .nil:=by
 intro A env P fr s Q E d cx hk h hQ
 cases (show some .none=some d from h)
 exact wpAny_pure (hQ _ s (Keeps.refl s) .none)
theorem zNz {h t:E} (sh:SE prog w G ga gcx call rc h):SOp prog w G ga gcx call rc (.cons h t):=by
 intro A env P fr s Q E d cx hk hh hQ
 obtain ⟨k1,k2⟩:=zBH hk
 exact sh.v A env P fr s Q E d cx k1 hh hQ
theorem zId {a lo hi st d:D} (h:zHx a lo hi st=some d):(∃l,a= .list l)∨(∃l,a= .tuple l)∨∃l,a= .dict l:=by
 induction a using PyData.casesOn with
 | list l=>exact .inl ⟨l,rfl⟩
 | tuple l=>exact .inr (.inl ⟨l,rfl⟩)
 | dict l=>exact .inr (.inr ⟨l,rfl⟩)
 | _=>cases h
theorem zPT {lo hi st:E} {p:Pos} (s1:SOp prog w G ga gcx call rc lo) (s2:SOp prog w G ga gcx call rc hi) (s3:SOp prog w G ga gcx call rc st):zJO prog w G ga gcx call rc (.slc lo hi st p):=by
 intro base A env P fr s Q E va a d cx hk ra h hQ pos
 obtain ⟨k1,k2⟩:=zAN (show zAA ((Ck lo).k env.scope) (zAA ((Ck hi).k env.scope) ((Ck st).k env.scope) false) false=true from hk)
 obtain ⟨k2,k3⟩:=zAN k2
 obtain ⟨x,h1,h⟩:=zAB (show bnd ((Ev gcx call lo).o fr) (fun lo=>bnd ((Ev gcx call hi).o fr) fun hi=>bnd ((Ev gcx call st).o fr) fun st=>zHx a lo hi st)=some d from h)
 obtain ⟨y,h2,h⟩:=zAB h
 obtain ⟨z,h3,h4⟩:=zAB h
 refine wpAny_bind (wpAny_holding (wpAny_Slice (s1 A env P fr s _ E x cx k1 h1 fun v1 s₁ q1 r1=> ?_)))
 refine s2 A env P fr s₁ _ E y (cx.keeps q1) k2 h2 fun v2 s₂ q2 r2=> ?_
 refine s3 A env P fr s₂ _ E z ((cx.keeps q1).keeps q2) k3 h3 fun v3 s₃ q3 r3=>wpAny_bind (wpAny_standAt ?_)
 have q4:Keeps s₃ {s₃ with heap:=s₃.heap.push {cls:= .type "slice",data:= .fields #[v1,v2,v3]}}:=Keeps.push s₃ _
 have q13:=Keeps.trans (Keeps.trans q1 q2) q3
 have ra':PkR w P (s₃.heap.push {cls:= .type "slice",data:= .fields #[v1,v2,v3]}) va a:=(ra.keep fun V V e=>Keeps.get q13 e).keep fun V V e=>Keeps.get q4 e
 have e1:RdW P (s₃.heap.push {cls:= .type "slice",data:= .fields #[v1,v2,v3]}) v1 x:=RdW.keeps (RdW.keeps (RdW.keeps r1 q2) q3) q4
 have e2:RdW P (s₃.heap.push {cls:= .type "slice",data:= .fields #[v1,v2,v3]}) v2 y:=RdW.keeps (RdW.keeps r2 q3) q4
 have e3:RdW P (s₃.heap.push {cls:= .type "slice",data:= .fields #[v1,v2,v3]}) v3 z:=RdW.keeps r3 q4
 refine wpAny_bind (zCv ra' (zId h4) (wpAny_bind ?_))
 have fin:wpAny (model prog w) A (getItem va (.ref s₃.heap.objs.size)) (fun r s₅=>wpAny (model prog w) A (letTemporaryGo base va r >>= fun V=>pure r) Q E s₅) E {s₃ with heap:=s₃.heap.push {cls:= .type "slice",data:= .fields #[v1,v2,v3]}}:=
  zGO h4 ra' e1 e2 e3 (((cx.keeps q13).keeps q4).ok.live) (Heap.IsSliceOf.new _ _ _ _) fun u s₅ q5 r5=>wpAny_bind (wpAny_letTemporaryGo (wpAny_pure (hQ u s₅ (Keeps.trans (Keeps.trans q13 q4) q5) r5)))
 show wpAny _ A (subscripted (.Slice (upo nm lo) (upo nm hi) (upo nm st) p) false va _) _ _ _
 cases hst:upo nm st with
 | none=>exact wpAny_operating fin
 | some e=>exact wpAny_operating fin
theorem SE.vac {e:E} (hv:(Ev gcx call e).v=noV) (hp:(Ev gcx call e).p=noV) (ht:(Ev gcx call e).t=noT):SE prog w G ga gcx call rc e:=
 ⟨fun A env P fr s Q E d cx hk h hQ=>(by rw [hv] at h; cases h),fun A env P fr s Q E d cx hk h hQ=>(by rw [hp] at h; cases h),fun A env P fr s Q E d cx hk h hQ=>(by rw [ht] at h; cases h)⟩
theorem SL.vac {e:E} (hl:(Ev gcx call e).l=noL) (hp:(Ev gcx call e).lp=noL) (ha:(Ev gcx call e).a=noA) (hb:(Ev gcx call e).b=noB) (hz:(Ev gcx call e).z=false):SL prog w G ga gcx call rc e where
 l:=fun pos A env P fr s Q E ds cx hk h hQ=>by rw [hl] at h; cases h
 lp:=fun pos A env P fr s Q E ds cx hk h hQ=>by rw [hp] at h; cases h
 a:=fun o A env P fr s Q E c cx hk h hQ=>by rw [ha] at h; cases h
 b:=fun pos o A env P fr s Q E d cx hk h hQ=>by rw [hb] at h; cases h
 z:=fun h=>by rw [hz] at h; cases h
 nz:=fun o fr d h=>by rw [hb] at h; cases h
theorem SC.vac {e:E} (hc:(Ev gcx call e).c=noC):SC prog w G ga gcx call rc e where
 c:=fun pos A env P fr s Q E va a ops r cx hk hn ra h hQ=>by rw [hc] at h; cases h
 t:=fun pos A env P fr s Q E va a ops r cx hk hn ra h hQ=>by rw [hc] at h; cases h
theorem zJO.vac {e:E} (hs:(Ev gcx call e).s=noS):zJO prog w G ga gcx call rc e:=by
 intro base A env P fr s Q E va a d cx hk ra h hQ pos
 rw [hs] at h; cases h
theorem SOp.vac {e:E} (ho:(Ev gcx call e).o=noV):SOp prog w G ga gcx call rc e:=by
 intro A env P fr s Q E d cx hk h hQ
 rw [ho] at h; cases h
end
section
variable {prog:Program} {w:World} {G:Heap} {ga:Addr×Addr} {mg:Str→Option Value} {gcx:Nat→Option D} {call:Nat→List D→Option D} {rc:Nat}
theorem zKt (b:B):(b.name==("__debug__":Str))=false:=by cases b <;> decide +kernel
theorem zBr {A:Around} {env:Env} {P:Addr→Prop} {fr:Frm} {s:Shared} {Q:Value→Shared→Prop} {E:Value→Shared→Prop} {n:Nat} {p:Pos} {b:B} (W:Wd w G ga mg gcx) (cx:Cx w G ga A env P fr s n)
  (hk:zDP (env.scope.names.lookup b.name)=true) (hQ:Q b.val s):wpAny (model prog w) A (eval (.Name b.name p) env) Q E s:=by
 obtain ⟨mb,hb,hv⟩:=W.blt
 refine Calls.Name_function_global cx.ok.kind (zGf hk) ?_ (zKt b)
 exact Calls.loadGlobal_builtin (by rw [cx.gl.1]; exact W.ns.keeps fun b o e=>(cx.ok.glob b o e).1) (hv b).1 (by rw [cx.gl.2]; exact hb.keeps fun b o e=>(cx.ok.glob b o e).1) (hv b).2 hQ
theorem zDK {env:Env} {pos:Pos} {fr:Frm} {l:E}: ∀{ds:List D},(Ev gcx call l).l fr=some ds→(backTo pos (starEach (ups nm l) env)).any (·.1)=false:=by
 induction l using zFS with
 | H r ih=>
  intro ds e
  rcases zIu e with ⟨rfl,_⟩ | ⟨x,y,d,dr,rfl,_,h1,h3⟩
  ·rfl
  ·rw [zAV (zAk h1),zAP,List.any_cons,ih _ _ rfl h3]; rfl
theorem zED {env:Env} {pos:Pos} {h t:E} {fr:Frm} {ds:List D} (e:(Ev gcx call (.cons h t)).lp fr=some ds):(backTo pos (starEach (ups nm (.cons h t)) env)).any (·.1)=false:=by
 obtain ⟨d,h1,h2⟩:=zAB (show bnd ((Ev gcx call h).p fr) (fun d=>bnd ((Ev gcx call t).l fr) fun ds=>some (d :: ds))=some ds from e)
 obtain ⟨dr,h3,_⟩:=zAB h2
 rw [zAV (zEL h1),zAP,List.any_cons,zDK h3]; rfl
theorem zCI {A:Around} {env:Env} {P:Addr→Prop} {fr:Frm} {s:Shared} {Q:Value→Shared→Prop} {E:Value→Shared→Prop} {pos:Pos} {id:String} {l:Mine.E} {ds:List D} (sl:SL prog w G ga gcx call rc l)
  (cx:Cx w G ga A env P fr s rc) (hk:(Ck l).k env.scope=true) (h:(Ev gcx call l).lp fr=some ds) (hne:ds≠[])
  (hQ: ∀v vr d dr s',Keeps s s'→ds=d :: dr→PkR w P s'.heap v d→zAK P s'.heap vr dr→wpAny (model prog w) A (PySem.call (.builtin id) (v :: vr)) Q E s'):
  wpAny (model prog w) A (callWith pos (.builtin id) [] (backTo pos (starEach (ups nm l) env)) []) Q E s:=by
 rcases zNS h with e | ⟨x,y,d,rfl,h1⟩
 ·exact absurd e hne
 refine Calls.callWith_builtin (zED h) ?_
 have hsp:=sl.lp pos A env P fr s (fun vs s'=>wpAny (model prog w) A (PySem.call (.builtin id) vs) Q E s') E ds cx hk h fun vs s' k r=>by
  rcases r with ⟨_,e⟩ | ⟨v,d,vr,dr,rfl,e,r1,r2⟩
  ·exact absurd e hne
  ·exact hQ v vr d dr s' k e r1 r2
 rw [zAV (zEL h1),zAP] at hsp ⊢
 exact Calls.evalArgs_plain hsp
theorem zKN {A:Around} {E:Value→Shared→Prop} {s:Shared} {P:Addr→Prop} {v:Value} {d r:D} {Q:Value→Shared→Prop} (h:zIi d (fun l=>zAA (zAI l) (some (PyData.int (.ofNat (len l)))) none) none=some r) (ra:PkR w P s.heap v d)
  (hQ: ∀v s',Keeps s s'→RdW P s'.heap v r→Q v s'):wpAny (model prog w) A (PySem.call (.builtin "len") [v]) Q E s:=by
 induction d using PyData.casesOn with
 | list l=>
  obtain ⟨h1,h2⟩:=zAD (show zAA (zAI l) (some (PyData.int (.ofNat (len l)))) none=some r from h)
  cases h2
  have h1:=zAH h1
  obtain ⟨c,vs,n,rfl,g,q⟩:=zBC ra
  have hl:vs.size=l.length:=by rw [←q.length]; simp
  have hf:(vs.size:Int) < 2 ^ 63:=by rw [hl]; lia
  refine PySem.Calls.call_len_list (zAL g) hf ?_
  rw [zBb] at hQ
  rw [hl]
  exact hQ _ _ (Keeps.toks s _) (.int _ _)
 | tuple l=>
  obtain ⟨h1,h2⟩:=zAD (show zAA (zAI l) (some (PyData.int (.ofNat (len l)))) none=some r from h)
  cases h2
  have h1:=zAH h1
  obtain ⟨c,vs,n,rfl,g,q⟩:=zDY ra
  have hl:vs.size=l.length:=by rw [←q.length]; simp
  have hf:(vs.size:Int) < 2 ^ 63:=by rw [hl]; lia
  refine PyProof.Rows.len_tuple (zAt g) hf ?_
  rw [zBb] at hQ
  rw [hl]
  exact hQ _ _ (Keeps.toks s _) (.int _ _)
 | _=>cases h
end
section
variable {prog:Program} {w:World} {A:Around} {E:Value→Shared→Prop} {s:Shared} {P:Addr→Prop} {v:Value} {d r:D} {Q:Value→Shared→Prop}
theorem zKd {h:Heap} (al: ∀x,P x→∃o,h.get? x=some o): ¬P h.objs.size:=fun x=>by
 obtain ⟨o,ho⟩:=al _ x; exact absurd (Heap.lt_size ho) (Nat.lt_irrefl _)
theorem zGZ (h:zIi d (fun l=>zAA (zAI l) (some (PyData.list l)) none) none=some r) (ra:PkR w P s.heap v d) (al: ∀x,P x→∃o,s.heap.get? x=some o)
  (hQ: ∀v s',Keeps s s'→RdW P s'.heap v r→Q v s'):wpAny (model prog w) A (PySem.call (.type "list") [v]) Q E s:=by
 have key: ∀(c:Addr) (T:String) (o:Obj) (vs:Array Value) (n:Nat) (l:List D),T="list"∨T="tuple"→s.heap.get? c=some o→o.cls= .type T→o.data= .seq vs n→zAK P s.heap vs.toList l→zAI l=true→r= .list l→
   wpAny (model prog w) A (PySem.call (.type "list") [.ref c]) Q E s:=fun c T o vs n l hT g hc hd q hs hr=>by
  have hs:=zAH hs
  have hl:vs.size=l.length:=by rw [←q.length]; simp
  have hz:vs.size≤sizeLine:=by rw [hl,sizeLine_eq]; lia
  subst hr
  refine call_list_seq c hT g hc hd (fun h' c' hk hg=> ?_) hz
  exact hQ _ _ ⟨h',s.toks,rfl,hk⟩ (.list hg (zKd al) (q.keep hk))
 induction d using PyData.casesOn with
 | list l=>
  obtain ⟨h1,h2⟩:=zAD (show zAA (zAI l) (some (PyData.list l)) none=some r from h)
  obtain ⟨c,vs,n,rfl,g,q⟩:=zBC ra
  exact key c "list" _ vs n l (.inl rfl) g rfl rfl q h1 (Option.some.inj h2).symm
 | tuple l=>
  obtain ⟨h1,h2⟩:=zAD (show zAA (zAI l) (some (PyData.list l)) none=some r from h)
  obtain ⟨c,vs,n,rfl,g,q⟩:=zDY ra
  exact key c "tuple" _ vs n l (.inr rfl) g rfl rfl q h1 (Option.some.inj h2).symm
 | _=>cases h
theorem zFQ (h:zAz d (fun l=>zAA (zAI l) (some (PyData.tuple l)) none) none=some r) (ra:PkR w P s.heap v d) (al: ∀x,P x→∃o,s.heap.get? x=some o)
  (hQ: ∀v s',Keeps s s'→RdW P s'.heap v r→Q v s'):wpAny (model prog w) A (PySem.call (.type "tuple") [v]) Q E s:=by
 induction d using PyData.casesOn with
 | list l=>
  obtain ⟨h1,h2⟩:=zAD (show zAA (zAI l) (some (PyData.tuple l)) none=some r from h)
  cases h2
  have hs:=zAH h1
  obtain ⟨c,vs,n,rfl,g,q⟩:=zBC ra
  have hl:vs.size=l.length:=by rw [←q.length]; simp
  have hz:vs.size≤sizeLine:=by rw [hl,sizeLine_eq]; lia
  refine call_tuple_list (zAL g) (fun h' hk=> ?_) hz
  have al': ∀x,P x→∃o,h'.get? x=some o:=fun x px=>let ⟨o,e⟩:=al x px; ⟨o,hk _ _ e⟩
  exact zBy (s:={s with heap:=h'}) al' (q.keep hk) fun v s₂ q2 r2=>hQ v s₂ (Keeps.trans ⟨h',s.toks,rfl,hk⟩ q2) r2
 | _=>cases h
theorem zLA (h:zAO d (fun i=>some (PyData.int (.ofNat (zLB i)))) none=some r) (ra:PkR w P s.heap v d)
  (hQ: ∀v s',Keeps s s'→RdW P s'.heap v r→Q v s'):wpAny (model prog w) A (PySem.call (.builtin "abs") [v]) Q E s:=by
 induction d using PyData.casesOn with
 | int i=>
  cases (show some (PyData.int (.ofNat (zLB i)))=some r from h)
  have ra:RdW P s.heap v (.int i):=by
   rcases ra with ra | ra
   ·exact ra
   ·exact ra.elim
  obtain ⟨t,rfl⟩:=ra.intInv
  refine call_abs_int fun u tk=> ?_
  have e:(if i < 0 then -i else i)=Int.ofNat (zLB i):=by
   rw [zFv,Int.ofNat_eq_natCast]
   by_cases hi:i < 0
   ·rw [if_pos hi]; lia
   ·rw [if_neg hi]; lia
  rw [e]
  exact hQ _ _ (Keeps.toks s _) (.int _ _)
 | _=>cases h
end
section
variable {prog:Program} {w:World} {A:Around}
theorem zHs (I ax:Addr) (hne:ax≠I) (items:Array Value):
  Walks prog w A I (I :: ax :: zAQ A) [I] items.size (fun i v=>items[i]? =some v) (fun i h=>h.IsTupleIter I ax i∧h.IsTuple ax items∧zAG A h) where
 sub:=fun b hb=>by simp at hb; simp [hb]
 frame:=fun V V V st hk=>⟨Heap.IsTupleIter.at st.1 fun o e=>hk I (by simp) o e,Heap.IsTuple.at st.2.1 fun o e=>hk ax (by simp) o e,st.2.2.at fun b hb o e=>hk b (by simp [hb]) o e⟩
 item:=fun i s Q E hi st hQ=>by
  refine wpAny_pyNext_tuple_item st.1 st.2.1 (x:=items[i]) (by simp [hi]) fun h' hit' hs'=> ?_
  obtain ⟨o,ho,_,hd⟩:=id st.1
  exact hQ _ h' s.toks (by simp [hi]) ⟨hit',st.2.1.extBut hs'.extBut hne,st.2.2.but rfl ho hd (by simp) hs'⟩ fun b o hb e=>hs'.extBut b o (fun h=>hb (by simp [h])) e
 done:=fun s Q E st hQ=>zAo st.2.2 st.1 st.2.1 (by simp) fun h' he'=>hQ h' s.toks fun b o hb e=>he' b o (fun h=>hb (by simp [h])) e
 self:=fun V V V V st hQ=>zBJ st.1 hQ
theorem zDv (I ax:Addr) (hne:ax≠I) (items:Array Value):
  Walks prog w A I (I :: ax :: zAQ A) [I] items.size (fun i v=>items[i]? =some v) (fun i h=>h.IsListIter I ax i∧h.IsList ax items∧zAG A h) where
 sub:=fun b hb=>by simp at hb; simp [hb]
 frame:=fun V V V st hk=>⟨st.1.at fun o e=>hk I (by simp) o e,st.2.1.at fun o e=>hk ax (by simp) o e,st.2.2.at fun b hb o e=>hk b (by simp [hb]) o e⟩
 item:=fun i s Q E hi st hQ=>by
  refine wpAny_pyNext_list_item st.1 st.2.1 (x:=items[i]) (by simp [hi]) fun h' hit' hs'=> ?_
  obtain ⟨o,ho,_,hd⟩:=id st.1
  exact hQ _ h' s.toks (by simp [hi]) ⟨hit',st.2.1.extBut hs'.extBut hne,st.2.2.but rfl ho hd (by simp) hs'⟩ fun b o hb e=>hs'.extBut b o (fun h=>hb (by simp [h])) e
 done:=fun s Q E st hQ=>zBY st.2.2 st.1 st.2.1 (by simp) fun h' he'=>hQ h' s.toks fun b o hb e=>he' b o (fun h=>hb (by simp [h])) e
 self:=fun V V V V st hQ=>wpAny_pyIter_listiter st.1 hQ
variable {E:Value→Shared→Prop} {s:Shared}
theorem zOS {a b:Int} {t u:Tok} {Q:Value→Shared→Prop} (hh:zAG A s.heap)
  (hQ: ∀h' tk,(∀c o,s.heap.get? c=some o→h'.get? c=some o)→Q (if b > a then .int b u else .int a t) {s with heap:=h',toks:=tk}):
  wpAny (model prog w) A (PySem.call (.builtin "max") [.int a t, .int b u]) Q E s:=by
 have hT:(s.heap.push {cls:= .type "tuple",data:= .seq #[.int a t, .int b u]}).IsTuple s.heap.objs.size #[.int a t, .int b u]:=⟨_,Heap.get?_push_size _ rfl,rfl,0,rfl⟩
 refine call_max_two (wpAny_pyIter_tuple hT ?_)
 have hsz:(s.heap.push {cls:= .type "tuple",data:= .seq #[.int a t, .int b u]}).objs.size=s.heap.objs.size + 1:=Heap.size_push ..
 have hI:zAG A.in1 ((s.heap.push {cls:= .type "tuple",data:= .seq #[.int a t, .int b u]}).push {cls:= .type "tuple_iterator",data:= .fields #[.ref s.heap.objs.size, .int 0 0]}):=
  (show zAG A.in1 s.heap from hh).keep fun V V e=>Heap.get?_push_of_some _ (Heap.get?_push_of_some _ e)
 have hit:((s.heap.push {cls:= .type "tuple",data:= .seq #[.int a t, .int b u]}).push {cls:= .type "tuple_iterator",data:= .fields #[.ref s.heap.objs.size, .int 0 0]}).IsTupleIter (s.heap.push {cls:= .type "tuple",data:= .seq #[.int a t, .int b u]}).objs.size s.heap.objs.size 0:=
  ⟨_,Heap.get?_push_size _ rfl,rfl,rfl⟩
 have e2:intItems #[(a,t),(b,u)]= #[.int a t, .int b u]:=by simp [intItems]
 refine ⟨_,_,_,_,_,_,_,rfl,zHs (A:=A.in1) _ s.heap.objs.size (by rw [hsz]; exact Nat.ne_of_lt (Nat.lt_succ_self _)) (intItems #[(a,t),(b,u)]),
  ⟨hit,e2▸hT.push _,hI⟩,fun c hc=> ?_,by simp [intItems],CmpOf.ints_gt (numAt #[(a,t),(b,u)]) (fun V V=>intItems_at),fun v h' tk hP hk=> ?_⟩
 ·show c < ((s.heap.push _).push _).objs.size
  rw [Heap.size_push,hsz]
  rcases List.mem_cons.mp hc with rfl | hc
  ·rw [hsz]; exact Nat.lt_succ_self _
  ·rcases List.mem_cons.mp hc with rfl | hc
   ·exact Nat.lt_succ_of_lt (Nat.lt_succ_self _)
   ·exact Nat.lt_succ_of_lt (Nat.lt_succ_of_lt (hh.live c hc))
 ·have hold: ∀c o,s.heap.get? c=some o→h'.get? c=some o:=fun c o e=>by
   refine hk c o (fun hm=> ?_) (Heap.get?_push_of_some _ (Heap.get?_push_of_some _ e))
   have h1:=Heap.lt_size e
   have h2:c=(s.heap.push {cls:= .type "tuple",data:= .seq #[.int a t, .int b u]}).objs.size:=by simpa using hm
   rw [hsz] at h2; rw [h2] at h1; exact Nat.lt_irrefl _ (Nat.lt_of_succ_lt h1)
  have:=hQ h' tk hold
  have hP':(#[.int a t, .int b u]:Array Value)[argBest (fun i j=>decide (numAt #[(a,t),(b,u)] i > numAt #[(a,t),(b,u)] j)) 1]? =some v:=by
   rw [←e2]; simpa [intItems] using hP
  have hv:v=if b > a then Value.int b u else Value.int a t:=by
   by_cases hba:b > a
   ·simpa [argBest,numAt,hba] using hP'.symm
   ·simpa [argBest,numAt,hba] using hP'.symm
  rw [hv]; exact this
theorem zOR {a b:Int} {t u:Tok} {Q:Value→Shared→Prop} (hh:zAG A s.heap)
  (hQ: ∀h' tk,(∀c o,s.heap.get? c=some o→h'.get? c=some o)→Q (if b < a then .int b u else .int a t) {s with heap:=h',toks:=tk}):
  wpAny (model prog w) A (PySem.call (.builtin "min") [.int a t, .int b u]) Q E s:=by
 have hT:(s.heap.push {cls:= .type "tuple",data:= .seq #[.int a t, .int b u]}).IsTuple s.heap.objs.size #[.int a t, .int b u]:=⟨_,Heap.get?_push_size _ rfl,rfl,0,rfl⟩
 refine call_min_two (wpAny_pyIter_tuple hT ?_)
 have hsz:(s.heap.push {cls:= .type "tuple",data:= .seq #[.int a t, .int b u]}).objs.size=s.heap.objs.size + 1:=Heap.size_push ..
 have hI:zAG A.in1 ((s.heap.push {cls:= .type "tuple",data:= .seq #[.int a t, .int b u]}).push {cls:= .type "tuple_iterator",data:= .fields #[.ref s.heap.objs.size, .int 0 0]}):=
  (show zAG A.in1 s.heap from hh).keep fun V V e=>Heap.get?_push_of_some _ (Heap.get?_push_of_some _ e)
 have hit:((s.heap.push {cls:= .type "tuple",data:= .seq #[.int a t, .int b u]}).push {cls:= .type "tuple_iterator",data:= .fields #[.ref s.heap.objs.size, .int 0 0]}).IsTupleIter (s.heap.push {cls:= .type "tuple",data:= .seq #[.int a t, .int b u]}).objs.size s.heap.objs.size 0:=
  ⟨_,Heap.get?_push_size _ rfl,rfl,rfl⟩
 have e2:intItems #[(a,t),(b,u)]= #[.int a t, .int b u]:=by simp [intItems]
 refine ⟨_,_,_,_,_,_,_,rfl,zHs (A:=A.in1) _ s.heap.objs.size (by rw [hsz]; exact Nat.ne_of_lt (Nat.lt_succ_self _)) (intItems #[(a,t),(b,u)]),
  ⟨hit,e2▸hT.push _,hI⟩,fun c hc=> ?_,by simp [intItems],CmpOf.ints_lt (numAt #[(a,t),(b,u)]) (fun V V=>intItems_at),fun v h' tk hP hk=> ?_⟩
 ·show c < ((s.heap.push _).push _).objs.size
  rw [Heap.size_push,hsz]
  rcases List.mem_cons.mp hc with rfl | hc
  ·rw [hsz]; exact Nat.lt_succ_self _
  ·rcases List.mem_cons.mp hc with rfl | hc
   ·exact Nat.lt_succ_of_lt (Nat.lt_succ_self _)
   ·exact Nat.lt_succ_of_lt (Nat.lt_succ_of_lt (hh.live c hc))
 ·have hold: ∀c o,s.heap.get? c=some o→h'.get? c=some o:=fun c o e=>by
   refine hk c o (fun hm=> ?_) (Heap.get?_push_of_some _ (Heap.get?_push_of_some _ e))
   have h1:=Heap.lt_size e
   have h2:c=(s.heap.push {cls:= .type "tuple",data:= .seq #[.int a t, .int b u]}).objs.size:=by simpa using hm
   rw [hsz] at h2; rw [h2] at h1; exact Nat.lt_irrefl _ (Nat.lt_of_succ_lt h1)
  have:=hQ h' tk hold
  have hP':(#[.int a t, .int b u]:Array Value)[argBest (fun i j=>decide (numAt #[(a,t),(b,u)] i < numAt #[(a,t),(b,u)] j)) 1]? =some v:=by
   rw [←e2]; simpa [intItems] using hP
  have hv:v=if b < a then Value.int b u else Value.int a t:=by
   by_cases hba:b < a
   ·simpa [argBest,numAt,hba] using hP'.symm
   ·simpa [argBest,numAt,hba] using hP'.symm
  rw [hv]; exact this
end
theorem zFk: ∀(l:List D) (a:Int) (d:D),zLR (fun a b=>ltI a b) a l=some d→∃M,d= .int M∧a≤M∧(∀x∈l,∃i,x= .int i∧i≤M)∧(M=a∨PyData.int M∈l)
 | [],a,d,h=>by
  cases (show some (PyData.int a)=some d from h)
  exact ⟨a,rfl,Int.le_refl _,fun x hx=>by simp at hx, .inl rfl⟩
 | x :: l,a,d,h=>by
  obtain ⟨b,rfl,h'⟩:=zBm (show zAO x (fun b=>zAA (ltI a b) (zLR (fun a b=>ltI a b) b l) (zLR (fun a b=>ltI a b) a l)) none=some d from h)
  clear h
  have h:=h'
  clear h'
  cases hc:ltI a b with
  | true=>
   rw [hc,zAJ] at h
   obtain ⟨M,rfl,h1,h2,h3⟩:=zFk l b d h
   rw [zDa] at hc
   have hc:=of_decide_eq_true hc
   refine ⟨M,rfl,by lia,fun x hx=> ?_, ?_⟩
   ·rcases List.mem_cons.mp hx with rfl | hx
    ·exact ⟨b,rfl,h1⟩
    ·exact h2 x hx
   ·rcases h3 with rfl | h3
    ·exact .inr List.mem_cons_self
    ·exact .inr (List.mem_cons_of_mem _ h3)
  | false=>
   rw [hc,zAF] at h
   obtain ⟨M,rfl,h1,h2,h3⟩:=zFk l a d h
   rw [zDa] at hc
   have hc:=of_decide_eq_false hc
   refine ⟨M,rfl,h1,fun x hx=> ?_, ?_⟩
   ·rcases List.mem_cons.mp hx with rfl | hx
    ·exact ⟨b,rfl,by lia⟩
    ·exact h2 x hx
   ·rcases h3 with rfl | h3
    ·exact .inl rfl
    ·exact .inr (List.mem_cons_of_mem _ h3)
theorem zFj: ∀(l:List D) (a:Int) (d:D),zLR (fun a b=>ltI b a) a l=some d→∃M,d= .int M∧M≤a∧(∀x∈l,∃i,x= .int i∧M≤i)∧(M=a∨PyData.int M∈l)
 | [],a,d,h=>by
  cases (show some (PyData.int a)=some d from h)
  exact ⟨a,rfl,Int.le_refl _,fun x hx=>by simp at hx, .inl rfl⟩
 | x :: l,a,d,h=>by
  obtain ⟨b,rfl,h'⟩:=zBm (show zAO x (fun b=>zAA (ltI b a) (zLR (fun a b=>ltI b a) b l) (zLR (fun a b=>ltI b a) a l)) none=some d from h)
  clear h
  have h:=h'
  clear h'
  cases hc:ltI b a with
  | true=>
   rw [hc,zAJ] at h
   obtain ⟨M,rfl,h1,h2,h3⟩:=zFj l b d h
   rw [zDa] at hc
   have hc:=of_decide_eq_true hc
   refine ⟨M,rfl,by lia,fun x hx=> ?_, ?_⟩
   ·rcases List.mem_cons.mp hx with rfl | hx
    ·exact ⟨b,rfl,h1⟩
    ·exact h2 x hx
   ·rcases h3 with rfl | h3
    ·exact .inr List.mem_cons_self
    ·exact .inr (List.mem_cons_of_mem _ h3)
  | false=>
   rw [hc,zAF] at h
   obtain ⟨M,rfl,h1,h2,h3⟩:=zFj l a d h
   rw [zDa] at hc
   have hc:=of_decide_eq_false hc
   refine ⟨M,rfl,h1,fun x hx=> ?_, ?_⟩
   ·rcases List.mem_cons.mp hx with rfl | hx
    ·exact ⟨b,rfl,by lia⟩
    ·exact h2 x hx
   ·rcases h3 with rfl | h3
    ·exact .inl rfl
    ·exact .inr (List.mem_cons_of_mem _ h3)
section
variable {prog:Program} {w:World} {A:Around} {E:Value→Shared→Prop} {s:Shared} {P:Addr→Prop}
noncomputable def zBw (ds:List D) (i:Nat):Int:=match ds[i]? with | some (.int k)=>k | _=>0
theorem zCQ {x:D} {l:List D} {h: ∀y∈x :: l,∃i,y=PyData.int i} {j:Nat} {y:D} (e:(x :: l)[j]? =some y):y= .int (zBw (x :: l) j):=by
 obtain ⟨i,rfl⟩:=h y (List.mem_of_getElem? e)
 unfold zBw; rw [e]
theorem zFb {a:Int} {l:List D} {d:D} {v:Value} {Q:Value→Shared→Prop} (hh:zAG A s.heap) (h:zLR (fun a b=>ltI a b) a l=some d) (ra:PkR w P s.heap v (.list (PyData.int a :: l)))
  (hQ: ∀v s',Keeps s s'→RdW P s'.heap v d→Q v s'):wpAny (model prog w) A (PySem.call (.builtin "max") [v]) Q E s:=by
 obtain ⟨M,rfl,h1,h2,h3⟩:=zFk l a d h
 obtain ⟨c,vs,n,rfl,g,q⟩:=zBC ra
 have hall: ∀y∈PyData.int a :: l,∃i,y=PyData.int i:=fun y hy=>by
  rcases List.mem_cons.mp hy with rfl | hy
  ·exact ⟨a,rfl⟩
  ·obtain ⟨i,e,_⟩:=h2 y hy; exact ⟨i,e⟩
 have hl:vs.size=(PyData.int a :: l).length:=by rw [←q.length]; simp
 have hint: ∀(i:Nat) (v:Value),vs[i]? =some v→∃t,v=Value.int (zBw (PyData.int a :: l) i) t:=fun i v e=>by
  obtain ⟨x,e1,r⟩:=q.getV (show vs.toList[i]? =some v by simpa using e)
  have:=zCQ (h:=hall) e1
  subst this
  exact r.intInv
 refine call_max_walkS (wpAny_pyIter_list (zAL g) ?_)
 have hne:c≠s.heap.objs.size:=Nat.ne_of_lt (Heap.lt_size g)
 refine ⟨s.heap.objs.size,_,_,_,_,_,_,_,rfl,(zDv (A:=A.in1) s.heap.objs.size c hne vs).toS,⟨⟨_,Heap.get?_push_size _ rfl,rfl,rfl⟩,zAL (Heap.get?_push_of_some _ g),(show zAG A.in1 s.heap from hh).keep fun V V e=>Heap.get?_push_of_some _ e⟩,
  fun b hb=> ?_,by rw [hl]; simp,CmpOf.ints_gt (zBw (PyData.int a :: l)) hint,fun v s' hv hm=> ?_⟩
 ·show b < (s.heap.push _).objs.size
  rw [Heap.size_push]
  rcases List.mem_cons.mp hb with rfl | hb
  ·exact Nat.lt_succ_self _
  ·rcases List.mem_cons.mp hb with rfl | hb
   ·exact Nat.lt_succ_of_lt (Heap.lt_size g)
   ·exact Nat.lt_succ_of_lt (hh.live b hb)
 ·obtain ⟨t,rfl⟩:=hint _ v hv
  have hb:=argBest_gt (zBw (PyData.int a :: l)) (vs.size - 1)
  have hlen:(PyData.int a :: l).length=l.length + 1:=rfl
  have hM:zBw (PyData.int a :: l) (argBest (fun i j=>decide (zBw (PyData.int a :: l) i > zBw (PyData.int a :: l) j)) (vs.size - 1))=M:=by
   apply Int.le_antisymm
   ·have hj:=hb.1
    have hlt:argBest (fun i j=>decide (zBw (PyData.int a :: l) i > zBw (PyData.int a :: l) j)) (vs.size - 1) < (PyData.int a :: l).length:=by lia
    have e:=zCQ (h:=hall) (List.getElem?_eq_getElem hlt)
    have hm:=List.getElem_mem hlt
    rw [e] at hm
    rcases List.mem_cons.mp hm with e2 | hm
    ·injection e2 with e2; rw [e2]; exact h1
    ·obtain ⟨i,e3,h4⟩:=h2 _ hm
     injection e3 with e3; rw [e3]; exact h4
   ·have hmem:PyData.int M∈PyData.int a :: l:=by
     rcases h3 with rfl | h3
     ·exact List.mem_cons_self
     ·exact List.mem_cons_of_mem _ h3
    obtain ⟨j,hj,e⟩:=List.mem_iff_getElem.mp hmem
    have e2:=zCQ (h:=hall) (List.getElem?_eq_getElem hj)
    rw [e] at e2
    injection e2 with e2
    rw [e2]
    exact hb.2 j (by lia)
  rw [hM]
  obtain ⟨hp,g',d',tk,os⟩:=s'
  have e1:g'=s.gens:=hm.gens
  have e2:d'=s.drawn:=hm.drawn
  have e3:os=s.os:=hm.os
  subst e1 e2 e3
  refine hQ _ _ ⟨hp,tk,rfl,fun b o e=>hm.heap b o (fun hx=> ?_) (Heap.get?_push_of_some _ e)⟩ (.int M t)
  have hx:b=s.heap.objs.size:=by simpa using hx
  subst hx
  exact Nat.lt_irrefl _ (Heap.lt_size e)
theorem zFZ {a:Int} {l:List D} {d:D} {v:Value} {Q:Value→Shared→Prop} (hh:zAG A s.heap) (h:zLR (fun a b=>ltI b a) a l=some d) (ra:PkR w P s.heap v (.list (PyData.int a :: l)))
  (hQ: ∀v s',Keeps s s'→RdW P s'.heap v d→Q v s'):wpAny (model prog w) A (PySem.call (.builtin "min") [v]) Q E s:=by
 obtain ⟨M,rfl,h1,h2,h3⟩:=zFj l a d h
 obtain ⟨c,vs,n,rfl,g,q⟩:=zBC ra
 have hall: ∀y∈PyData.int a :: l,∃i,y=PyData.int i:=fun y hy=>by
  rcases List.mem_cons.mp hy with rfl | hy
  ·exact ⟨a,rfl⟩
  ·obtain ⟨i,e,_⟩:=h2 y hy; exact ⟨i,e⟩
 have hl:vs.size=(PyData.int a :: l).length:=by rw [←q.length]; simp
 have hint: ∀(i:Nat) (v:Value),vs[i]? =some v→∃t,v=Value.int (zBw (PyData.int a :: l) i) t:=fun i v e=>by
  obtain ⟨x,e1,r⟩:=q.getV (show vs.toList[i]? =some v by simpa using e)
  have:=zCQ (h:=hall) e1
  subst this
  exact r.intInv
 refine call_min_walkS (wpAny_pyIter_list (zAL g) ?_)
 have hne:c≠s.heap.objs.size:=Nat.ne_of_lt (Heap.lt_size g)
 refine ⟨s.heap.objs.size,_,_,_,_,_,_,_,rfl,(zDv (A:=A.in1) s.heap.objs.size c hne vs).toS,⟨⟨_,Heap.get?_push_size _ rfl,rfl,rfl⟩,zAL (Heap.get?_push_of_some _ g),(show zAG A.in1 s.heap from hh).keep fun V V e=>Heap.get?_push_of_some _ e⟩,
  fun b hb=> ?_,by rw [hl]; simp,CmpOf.ints_lt (zBw (PyData.int a :: l)) hint,fun v s' hv hm=> ?_⟩
 ·show b < (s.heap.push _).objs.size
  rw [Heap.size_push]
  rcases List.mem_cons.mp hb with rfl | hb
  ·exact Nat.lt_succ_self _
  ·rcases List.mem_cons.mp hb with rfl | hb
   ·exact Nat.lt_succ_of_lt (Heap.lt_size g)
   ·exact Nat.lt_succ_of_lt (hh.live b hb)
 ·obtain ⟨t,rfl⟩:=hint _ v hv
  have hb:=argBest_lt (zBw (PyData.int a :: l)) (vs.size - 1)
  have hlen:(PyData.int a :: l).length=l.length + 1:=rfl
  have hM:zBw (PyData.int a :: l) (argBest (fun i j=>decide (zBw (PyData.int a :: l) i < zBw (PyData.int a :: l) j)) (vs.size - 1))=M:=by
   apply Int.le_antisymm
   ·have hmem:PyData.int M∈PyData.int a :: l:=by
     rcases h3 with rfl | h3
     ·exact List.mem_cons_self
     ·exact List.mem_cons_of_mem _ h3
    obtain ⟨j,hj,e⟩:=List.mem_iff_getElem.mp hmem
    have e2:=zCQ (h:=hall) (List.getElem?_eq_getElem hj)
    rw [e] at e2
    injection e2 with e2
    rw [e2]
    exact hb.2 j (by lia)
   ·have hj:=hb.1
    have hlt:argBest (fun i j=>decide (zBw (PyData.int a :: l) i < zBw (PyData.int a :: l) j)) (vs.size - 1) < (PyData.int a :: l).length:=by lia
    have e:=zCQ (h:=hall) (List.getElem?_eq_getElem hlt)
    have hm:=List.getElem_mem hlt
    rw [e] at hm
    rcases List.mem_cons.mp hm with e2 | hm
    ·injection e2 with e2; rw [e2]; exact h1
    ·obtain ⟨i,e3,h4⟩:=h2 _ hm
     injection e3 with e3; rw [e3]; exact h4
  rw [hM]
  obtain ⟨hp,g',d',tk,os⟩:=s'
  have e1:g'=s.gens:=hm.gens
  have e2:d'=s.drawn:=hm.drawn
  have e3:os=s.os:=hm.os
  subst e1 e2 e3
  refine hQ _ _ ⟨hp,tk,rfl,fun b o e=>hm.heap b o (fun hx=> ?_) (Heap.get?_push_of_some _ e)⟩ (.int M t)
  have hx:b=s.heap.objs.size:=by simpa using hx
  subst hx
  exact Nat.lt_irrefl _ (Heap.lt_size e)
end
noncomputable def zDf (ds:List D) (i:Nat):Bool:=match ds[i]? with | some (.bool b)=>b | _=>false
theorem zIV: ∀(l:List D) (r:Bool),allB l=some r→(∀y∈l,∃b,y=PyData.bool b)∧(List.range l.length).all (zDf l)=r
 | [],r,h=>by
  cases (show some true=some r from h)
  exact ⟨fun y hy=>by simp at hy,rfl⟩
 | x :: l,r,h=>by
  have hx: ∃b,x= .bool b:=by cases x <;> first | exact ⟨_,rfl⟩ | cases h
  obtain ⟨b,rfl⟩:=hx
  obtain ⟨q,h1,h2⟩:=zAB (show bnd (allB l) (fun r=>some (zAA b r false))=some r from h)
  obtain ⟨h3,h4⟩:=zIV l q h1
  refine ⟨fun y hy=> ?_, ?_⟩
  ·rcases List.mem_cons.mp hy with rfl | hy
   ·exact ⟨b,rfl⟩
   ·exact h3 y hy
  ·rw [List.length_cons,List.range_succ_eq_map,List.all_cons,List.all_map]
   have e:(zDf (PyData.bool b :: l)∘Nat.succ)=zDf l:=by funext i; simp [zDf]
   have e0:zDf (PyData.bool b :: l) 0=b:=rfl
   rw [e,e0,h4]
   cases h2
   cases b <;> rfl
section
variable {prog:Program} {w:World} {A:Around} {E:Value→Shared→Prop} {s:Shared} {P:Addr→Prop}
theorem zKy {l:List D} {d:D} {v:Value} {Q:Value→Shared→Prop} (hh:zAG A s.heap) (h:allL l=some d) (ra:PkR w P s.heap v (.list l))
  (hQ: ∀v s',Keeps s s'→RdW P s'.heap v d→Q v s'):wpAny (model prog w) A (PySem.call (.builtin "all") [v]) Q E s:=by
 obtain ⟨r,h1,h2⟩:=zAB (show bnd (allB l) zHp=some d from h)
 cases h2
 obtain ⟨hb,hr⟩:=zIV l r h1
 obtain ⟨c,vs,n,rfl,g,q⟩:=zBC ra
 have hl:vs.size=l.length:=by rw [←q.length]; simp
 have hne:c≠s.heap.objs.size:=Nat.ne_of_lt (Heap.lt_size g)
 have hint: ∀(i:Nat) (v:Value),vs[i]? =some v→v= .bool (zDf l i):=fun i v e=>by
  obtain ⟨x,e1,r1⟩:=q.getV (show vs.toList[i]? =some v by simpa using e)
  obtain ⟨b,rfl⟩:=hb x (List.mem_of_getElem? e1)
  rw [r1.boolInv]; unfold zDf; rw [e1]
 refine call_all_walk (wpAny_pyIter_list (zAL g) ?_)
 refine ⟨s.heap.objs.size,_,_,_,_,_,zDf l,rfl,zDv (A:=A.in1) s.heap.objs.size c hne vs,⟨⟨_,Heap.get?_push_size _ rfl,rfl,rfl⟩,zAL (Heap.get?_push_of_some _ g),(show zAG A.in1 s.heap from hh).keep fun V V e=>Heap.get?_push_of_some _ e⟩,
  fun i v s Q E hv hQ=>by rw [hint i v hv]; exact wpAny_truthy_bool hQ,fun h' tk hk=> ?_⟩
 rw [hl,hr]
 refine hQ _ _ ⟨h',tk,rfl,fun b o e=>hk b o (fun hx=> ?_) (Heap.get?_push_of_some _ e)⟩ (.bool r)
 have hx:b=s.heap.objs.size:=by simpa using hx
 subst hx
 exact Nat.lt_irrefl _ (Heap.lt_size e)
end
section
variable {prog:Program} {w:World} {G:Heap} {ga:Addr×Addr} {mg:Str→Option Value} {gcx:Nat→Option D} {call:Nat→List D→Option D} {rc:Nat}
theorem zFP {A:Around} {env:Env} {P:Addr→Prop} {fr:Frm} {s:Shared} {Q:Value→Shared→Prop} {E:Value→Shared→Prop} {pos:Pos} {T:String} {l:Mine.E} {ds:List D} (sl:SL prog w G ga gcx call rc l)
  (cx:Cx w G ga A env P fr s rc) (hk:(Ck l).k env.scope=true) (h:(Ev gcx call l).lp fr=some ds) (hne:ds≠[])
  (hQ: ∀v vr d dr s',Keeps s s'→ds=d :: dr→PkR w P s'.heap v d→zAK P s'.heap vr dr→wpAny (model prog w) A (PySem.call (.type T) (v :: vr)) Q E s'):
  wpAny (model prog w) A (callWith pos (.type T) [] (backTo pos (starEach (ups nm l) env)) []) Q E s:=by
 rcases zNS h with e | ⟨x,y,d,rfl,h1⟩
 ·exact absurd e hne
 refine PySem.callWith_type (zED h) ?_
 have hsp:=sl.lp pos A env P fr s (fun vs s'=>wpAny (model prog w) A (PySem.call (.type T) vs) Q E s') E ds cx hk h fun vs s' k r=>by
  rcases r with ⟨_,e⟩ | ⟨v,d,vr,dr,rfl,e,r1,r2⟩
  ·exact absurd e hne
  ·exact hQ v vr d dr s' k e r1 r2
 rw [zAV (zEL h1),zAP] at hsp ⊢
 exact Calls.evalArgs_plain hsp
theorem zAf {α:Type} {l:List D} {f:D→Option α} {r:α} (h:zEj l f=some r): ∃d,l=[d]∧f d=some r:=by
 induction l using List.casesOn with
 | nil=>cases h
 | cons d l=>
  induction l using List.casesOn with
  | nil=>exact ⟨d,rfl,h⟩
  | cons _ _=>cases h
end
section
variable {prog:Program} {w:World} {G:Heap} {ga:Addr×Addr} {mg:Str→Option Value} {gcx:Nat→Option D} {call:Nat→List D→Option D} {rc:Nat}
def zFN (prog:Program) (w:World):Prop:=∀(A:Around) (E:Value→Shared→Prop) (s:Shared) (P:Addr→Prop) (v:Value) (d r:D) (Q:Value→Shared→Prop),zAG A s.heap→(∀x,P x→∃o,s.heap.get? x=some o)→zLc d=some r→PkR w P s.heap v d→
 (∀v s',Keeps s s'→RdW P s'.heap v r→Q v s')→wpAny (model prog w) A (PySem.call (.builtin "sorted") [v]) Q E s
theorem zBK {P:Addr→Prop} {h:Heap} {vr:List Value} {d x:D} {dr:List D} (e:[x]=d :: dr) (r:zAK P h vr dr):d=x∧vr=[]:=by
 cases e
 cases r
 exact ⟨rfl,rfl⟩
theorem zHz {P:Addr→Prop} {h:Heap} {vr:List Value} {d x y:D} {dr:List D} (e:[x,y]=d :: dr) (r:zAK P h vr dr):d=x∧∃v,vr=[v]∧RdW P h v y:=by
 cases e
 cases r with
 | cons a b=>cases b; exact ⟨rfl,_,rfl,a⟩
theorem zGo {f:Int→Int→Bool} {ds:List D} {d:D} (h:zSc f ds=some d):(∃a b,ds=[.int a, .int b]∧d= .int (zAA (f a b) b a))∨∃a l,ds=[.list (.int a :: l)]∧zLR f a l=some d:=by
 induction ds using List.casesOn with
 | nil=>cases h
 | cons x r=>
  induction x using PyData.casesOn with
  | int a=>
   induction r using List.casesOn with
   | nil=>cases h
   | cons y r'=>
    induction r' using List.casesOn with
    | nil=>
     induction y using PyData.casesOn with
     | int b=>cases h; exact .inl ⟨a,b,rfl,rfl⟩
     | _=>cases h
    | cons _ _=>cases h
  | list l=>
   induction r using List.casesOn with
   | nil=>
    induction l using List.casesOn with
    | nil=>cases h
    | cons y l'=>
     induction y using PyData.casesOn with
     | int a=>exact .inr ⟨a,l',rfl,h⟩
     | _=>cases h
   | cons _ _=>cases h
  | _=>cases h
theorem zJy {P:Addr→Prop} {h:Heap} {v:Value} {i:Int} {w:World} (ra:PkR w P h v (.int i)): ∃t,v= .int i t:=by
 rcases ra with ra | ra
 ·exact ra.intInv
 ·exact ra.elim
theorem zNM (W:Wd w G ga mg gcx) (hsort:zFN prog w) {b:B} {fp p:Pos} {l:E} (sl:SL prog w G ga gcx call rc l):SE prog w G ga gcx call rc (.blt b fp l p):=by
 refine SE.ofV ?_ (fun V=>rfl) (fun V=>rfl) (fun V=>rfl)
 intro A env P fr s Q E d cx hk h hQ
 obtain ⟨k1,k2⟩:=zAN (show zAA (zDP (env.scope.names.lookup b.name)) ((Ck l).k env.scope) false=true from hk)
 obtain ⟨ds,h1,h2⟩:=zAB (show bnd ((Ev gcx call l).lp fr) (fun ds=>zSk b ds)=some d from h)
 refine wpAny_Call_Name_kw (zBr W cx k1 ?_)
 show wpAny _ A (callWith p b.val [] (backTo p (starEach (ups nm l) env)) []) Q E s
 induction b with
 | len=>
  obtain ⟨x,rfl,h3⟩:=zAf (show zEj ds _=some d from h2)
  refine zCI sl cx k2 h1 (by simp) fun v vr y dr s' q e r1 r2=> ?_
  obtain ⟨rfl,rfl⟩:=zBK e r2
  exact zKN h3 r1 fun u s₂ q2 r=>hQ u s₂ (Keeps.trans q q2) r
 | abs=>
  obtain ⟨x,rfl,h3⟩:=zAf (show zEj ds _=some d from h2)
  refine zCI sl cx k2 h1 (by simp) fun v vr y dr s' q e r1 r2=> ?_
  obtain ⟨rfl,rfl⟩:=zBK e r2
  exact zLA h3 r1 fun u s₂ q2 r=>hQ u s₂ (Keeps.trans q q2) r
 | list=>
  obtain ⟨x,rfl,h3⟩:=zAf (show zEj ds _=some d from h2)
  refine zFP sl cx k2 h1 (by simp) fun v vr y dr s' q e r1 r2=> ?_
  obtain ⟨rfl,rfl⟩:=zBK e r2
  exact zGZ h3 r1 (cx.keeps q).ok.live fun u s₂ q2 r=>hQ u s₂ (Keeps.trans q q2) r
 | tuple=>
  obtain ⟨x,rfl,h3⟩:=zAf (show zEj ds _=some d from h2)
  refine zFP sl cx k2 h1 (by simp) fun v vr y dr s' q e r1 r2=> ?_
  obtain ⟨rfl,rfl⟩:=zBK e r2
  exact zFQ h3 r1 (cx.keeps q).ok.live fun u s₂ q2 r=>hQ u s₂ (Keeps.trans q q2) r
 | sorted=>
  obtain ⟨x,rfl,h3⟩:=zAf (show zEj ds zLc=some d from h2)
  refine zCI sl cx k2 h1 (by simp) fun v vr y dr s' q e r1 r2=> ?_
  obtain ⟨rfl,rfl⟩:=zBK e r2
  exact hsort A E s' P v _ d Q (cx.keeps q).hand (cx.keeps q).ok.live h3 r1 fun u s₂ q2 r=>hQ u s₂ (Keeps.trans q q2) r
 | all=>
  obtain ⟨x,rfl,h3⟩:=zAf (show zEj ds _=some d from h2)
  refine zCI sl cx k2 h1 (by simp) fun v vr y dr s' q e r1 r2=> ?_
  obtain ⟨rfl,rfl⟩:=zBK e r2
  induction y using PyData.casesOn with
  | list l=>exact zKy (cx.keeps q).hand h3 r1 fun u s₂ q2 r=>hQ u s₂ (Keeps.trans q q2) r
  | _=>cases h3
 | max=>
  have h3:zSc (fun a b=>ltI a b) ds=some d:=h2
  rcases zGo h3 with ⟨a,b,rfl,rfl⟩ | ⟨a,l',rfl,h4⟩
  ·refine zCI sl cx k2 h1 (by simp) fun v vr y dr s' q e r1 r2=> ?_
   obtain ⟨rfl,v2,rfl,r3⟩:=zHz e r2
   obtain ⟨t,rfl⟩:=zJy r1
   obtain ⟨u,rfl⟩:=r3.intInv
   refine zOS (cx.keeps q).hand fun h' tk hk=>hQ _ _ (Keeps.trans q ⟨h',tk,rfl,hk⟩) ?_
   rw [zDa]
   by_cases hab:a < b
   ·rw [if_pos hab,decide_eq_true hab]; exact .int _ _
   ·rw [if_neg hab,decide_eq_false hab]; exact .int _ _
  ·refine zCI sl cx k2 h1 (by simp) fun v vr y dr s' q e r1 r2=> ?_
   obtain ⟨rfl,rfl⟩:=zBK e r2
   exact zFb (cx.keeps q).hand h4 r1 fun u s₂ q2 r=>hQ u s₂ (Keeps.trans q q2) r
 | min=>
  have h3:zSc (fun a b=>ltI b a) ds=some d:=h2
  rcases zGo h3 with ⟨a,b,rfl,rfl⟩ | ⟨a,l',rfl,h4⟩
  ·refine zCI sl cx k2 h1 (by simp) fun v vr y dr s' q e r1 r2=> ?_
   obtain ⟨rfl,v2,rfl,r3⟩:=zHz e r2
   obtain ⟨t,rfl⟩:=zJy r1
   obtain ⟨u,rfl⟩:=r3.intInv
   refine zOR (cx.keeps q).hand fun h' tk hk=>hQ _ _ (Keeps.trans q ⟨h',tk,rfl,hk⟩) ?_
   rw [zDa]
   by_cases hab:b < a
   ·rw [if_pos hab,decide_eq_true hab]; exact .int _ _
   ·rw [if_neg hab,decide_eq_false hab]; exact .int _ _
  ·refine zCI sl cx k2 h1 (by simp) fun v vr y dr s' q e r1 r2=> ?_
   obtain ⟨rfl,rfl⟩:=zBK e r2
   exact zFZ (cx.keeps q).hand h4 r1 fun u s₂ q2 r=>hQ u s₂ (Keeps.trans q q2) r
 | range=>cases h2
 | enumerate=>cases h2
 | reversed=>cases h2
end
section
variable {prog:Program} {w:World} {G:Heap} {ga:Addr×Addr} {mg:Str→Option Value} {gcx:Nat→Option D} {call:Nat→List D→Option D} {rc:Nat}
def zAW (prog:Program) (w:World) (G:Heap) (mg:Str→Option Value) (call:Nat→List D→Option D) (rc:Nat):Prop:=
 ∀f ds d,call f ds=some d→ds≠[]∧∃a o fd,mg (nm f)=some (.ref a)∧G.get? a=some o∧o.data= .func fd∧
  ∀(A:Around) (P:Addr→Prop) (s:Shared) (vs:List Value) (Q:Value→Shared→Prop) (E:Value→Shared→Prop),(∀a o,G.get? a=some o→s.heap.get? a=some o∧¬P a)→(∀a,P a→∃o,s.heap.get? a=some o)→
   zAG A s.heap→(∀b∈zAQ A,¬P b)→A.depth + rc≤900→A.units + 16 * rc + 200≤9800→zAK P s.heap vs ds→
   (∀v s',Keeps s s'→RdW P s'.heap v d→(f=270→zCY w P s s' v d)→Q v s')→wpAny (model prog w) A (PySem.call (.ref a) vs) Q E s
variable (prog w G ga gcx call rc) in
def SF (e:E):Prop:=∀(A:Around) (env:Env) (P:Addr→Prop) (fr:Frm) (s:Shared) (Q:Value→Shared→Prop) (E:Value→Shared→Prop) (d:D),Cx w G ga A env P fr s rc→(Ck e).k env.scope=true→
  (Ev gcx call e).f fr=some d→(∀v s',Keeps s s'→zCY w P s s' v d→Q v s')→wpAny (model prog w) A (eval (up nm e) env) Q E s
theorem SF.vac {e:E} (hf:(Ev gcx call e).f=noV):SF prog w G ga gcx call rc e:=by
 intro A env P fr s Q E d cx hk h hQ
 rw [hf] at h; cases h
theorem zPd {l:E} {p:Pos} (sl:SL prog w G ga gcx call rc l):SF prog w G ga gcx call rc (.lst l p):=by
 intro A env P fr s Q E d cx hk h hQ
 obtain ⟨ds,h1,h2⟩:=zAB (show bnd ((Ev gcx call l).l fr) zDk=some d from h)
 obtain ⟨h3,h4⟩:=zAD (show zAA (zAI ds) (some (PyData.list ds)) none=some d from h2)
 cases h4
 rw [arm_eval_List]
 refine wpAny_bind (wpAny_standAt (wpAny_bind (sl.l p A env P fr s _ E ds cx hk h1 fun vs s₁ q1 r1=> ?_)))
 have hl:vs.length≤sizeLine:=by
  have:=zAH h3
  rw [r1.length,sizeLine_eq]; lia
 exact wpAny_newList (zEN (vs:=vs.toArray) (by simpa using r1) fun v s₂ q2 r2=>hQ v s₂ (Keeps.trans q1 q2) (r2.back q1)) hl
theorem zPg {a b:E} {op:Operator} {p:Pos} (ha:SE prog w G ga gcx call rc a) (hb:SE prog w G ga gcx call rc b):SF prog w G ga gcx call rc (.bin a op b p):=by
 intro A env P fr s Q E d cx hk h hQ
 obtain ⟨k1,k2⟩:=zAN (show zAA ((Ck a).k env.scope) ((Ck b).k env.scope) false=true from hk)
 obtain ⟨x,h1,h⟩:=zAB (show bnd ((Ev gcx call a).v fr) (fun x=>bnd ((Ev gcx call b).v fr) fun y=>zJN op x y)=some d from h)
 obtain ⟨y,h2,h3⟩:=zAB h
 refine wpAny_BinOp (ha.v A env P fr s _ E x cx k1 h1 fun v s₁ q1 r1=> ?_)
 refine hb.v A env P fr s₁ _ E y (cx.keeps q1) k2 h2 fun u s₂ q2 r2=> ?_
 exact zFK h3 (RdW.keeps r1 q2) r2 ((cx.keeps q1).keeps q2).ok.live fun v s₃ q3 r3=>hQ v s₃ (Keeps.trans (Keeps.trans q1 q2) q3) (r3.back (Keeps.trans q1 q2))
theorem zFX (W:Wd w G ga mg gcx) {A:Around} {env:Env} {P:Addr→Prop} {fr:Frm} {s:Shared} {n:Nat} (cx:Cx w G ga A env P fr s n):(s.heap.objs.size==sysModules)=false:=by
 obtain ⟨o,ho⟩:=W.sys
 have:=Heap.lt_size (cx.ok.glob _ _ ho).1
 rw [beq_eq_false_iff_ne]; intro e; rw [e] at this; exact Nat.lt_irrefl _ this
theorem zPe (W:Wd w G ga mg gcx) {p:Pos}:SF prog w G ga gcx call rc (.dct p):=by
 intro A env P fr s Q E d cx hk h hQ
 cases (show some (PyData.dict [])=some d from h)
 refine wpAny_Dict_empty ?_
 exact hQ _ _ (Keeps.push s _) ⟨_,rfl,zAw _,zAc.new (zFX W cx)⟩
theorem zPi (W:Wd w G ga mg gcx) {p:Pos}:SE prog w G ga gcx call rc (.dct p):=
 ⟨fun A env P fr s Q E d cx hk h hQ=>(by cases (show none=some d from h)),fun A env P fr s Q E d cx hk h hQ=>by
  cases (show some (PyData.dict [])=some d from h)
  refine wpAny_Dict_empty ?_
  exact hQ _ _ (Keeps.push s _) (.inr ⟨_,rfl,zAc.new (zFX W cx)⟩),
 fun A env P fr s Q E c cx hk h hQ=>(by cases (show none=some c from h))⟩
mutual
theorem zCC: ∀(d:D) {α:Type} (k:D→α),zBi d k=k d
 | .none,_,_=>rfl
 | .bool b,_,k=>by cases b <;> rfl
 | .int i,_,k=>zBh i fun j=>k (.int j)
 | .str _,_,_=>rfl
 | .list l,_,k=>zFE l k
 | .tuple l,_,k=>zFD l k
 | .dict l,_,k=>zFF l k
theorem zFE: ∀(l:List D) {α:Type} (k:D→α),zBi (.list l) k=k (.list l)
 | [],_,_=>rfl
 | h :: t,_,k=>by
  show zBi h (fun h=>zBi (.list t) fun d=>zAz d (fun t=>k (.list (h :: t))) (k d))=_
  rw [zCC h,zFE t]; rfl
theorem zFD: ∀(l:List D) {α:Type} (k:D→α),zBi (.tuple l) k=k (.tuple l)
 | [],_,_=>rfl
 | h :: t,_,k=>by
  show zBi h (fun h=>zBi (.tuple t) fun d=>zFV d (fun t=>k (.tuple (h :: t))) (k d))=_
  rw [zCC h,zFD t]; rfl
theorem zFF: ∀(l:List (D×D)) {α:Type} (k:D→α),zBi (.dict l) k=k (.dict l)
 | [],_,_=>rfl
 | (a,b) :: t,_,k=>by
  show zBi a (fun a=>zBi b fun b=>zBi (.dict t) fun d=>zEJ d (fun t=>k (.dict ((a,b) :: t))) (k d))=_
  rw [zCC a,zCC b,zFF t]; rfl
end
theorem zBN {α:Type}: ∀(l:List D) (k:List D→α),zBn l k=k l
 | [],_=>rfl
 | d :: l,k=>by
  show zBi d (fun d=>zBn l fun l=>k (d :: l))=_
  rw [zCC,zBN l]
theorem zFJ (W:Wd w G ga mg gcx) (hc:zAW prog w G mg call rc) {f:Nat} {fp p:Pos} {l:E} (sl:SL prog w G ga gcx call rc l)
  {A:Around} {env:Env} {P:Addr→Prop} {fr:Frm} {s:Shared} {Q:Value→Shared→Prop} {E:Value→Shared→Prop} {d:D} (cx:Cx w G ga A env P fr s rc) (hk:(Ck (.call f fp l p)).k env.scope=true)
  (h:bnd ((Ev gcx call l).l fr) (fun ds=>zBn ds fun ds=>call f ds)=some d) (hQ: ∀v s',Keeps s s'→RdW P s'.heap v d→(f=270→zCY w P s s' v d)→Q v s'):wpAny (model prog w) A (eval (up nm (.call f fp l p)) env) Q E s:=by
 obtain ⟨k1,k2⟩:=zAN (show zAA (zDP (env.scope.names.lookup (nm f))) ((Ck l).k env.scope) false=true from hk)
 obtain ⟨ds,h1,h2⟩:=zAB h
 rw [zBN] at h2
 obtain ⟨hne,a,o,fd,e1,e2,e3,sp⟩:=hc f ds d h2
 refine wpAny_Call_Name_kw (zBf W cx k1 (zBT f) e1 ?_)
 show wpAny _ A (callWith p (.ref a) [] (backTo p (starEach (ups nm l) env)) []) Q E s
 rcases zIu h1 with ⟨_,e⟩ | ⟨x,y,d1,dr,rfl,_,h3,_⟩
 ·exact absurd e hne
 have hsp:=sl.l p A env P fr s (fun vs s₁=>s₁.heap.get? a=some o∧wpAny (model prog w) A (PySem.call (.ref a) vs) Q E s₁) E ds cx k2 h1 fun vs s₁ q1 r1=>
  ⟨Keeps.get q1 (cx.ok.glob _ _ e2).1,sp A P s₁ vs Q E (cx.keeps q1).ok.glob (cx.keeps q1).ok.live (cx.keeps q1).hand cx.hp (by have:=cx.dep; lia) (by have:=cx.un; lia) r1 fun v s₂ q2 r2 f2=>
   hQ v s₂ (Keeps.trans q1 q2) r2 fun e=>(f2 e).back q1⟩
 exact callWith_def e3 hsp (zAV (zAk h3))
theorem zHN (W:Wd w G ga mg gcx) (hc:zAW prog w G mg call rc) {f:Nat} {fp p:Pos} {l:E} (sl:SL prog w G ga gcx call rc l):SE prog w G ga gcx call rc (.call f fp l p):=
 SE.ofV (fun V V V V V V V V cx hk h hQ=>zFJ W hc sl cx hk h fun v s' k r V=>hQ v s' k r) (fun V=>rfl) (fun V=>rfl) (fun V=>rfl)
theorem zOD (W:Wd w G ga mg gcx) (hc:zAW prog w G mg call rc) {f:Nat} {fp p:Pos} {l:E} (sl:SL prog w G ga gcx call rc l):SF prog w G ga gcx call rc (.call f fp l p):=by
 intro A env P fr s Q E d cx hk h hQ
 obtain ⟨h1,h2⟩:=zAD (show zAA (Nat.beq f 270) (bnd ((Ev gcx call l).l fr) fun ds=>zBn ds fun ds=>call f ds) none=some d from h)
 exact zFJ W hc sl cx hk h2 fun v s' k V f2=>hQ v s' k (f2 (Nat.eq_of_beq_eq_true h1))
end
section
variable {prog:Program} {w:World} {G:Heap} {ga:Addr×Addr} {mg:Str→Option Value} {gcx:Nat→Option D} {call:Nat→List D→Option D} {rc:Nat}
theorem zFc {A:Around} {E:Value→Shared→Prop} {s:Shared} {P:Addr→Prop} {v:Value} {d r:D} {Q:Value→Shared→Prop} (h:zIi d (fun l=>zAA (zAI l) (some (PyData.list l)) none) none=some r) (ra:PkR w P s.heap v d)
  (hQ: ∀v s',Keeps s s'→zCY w P s s' v r→Q v s'):wpAny (model prog w) A (PySem.call (.type "list") [v]) Q E s:=by
 have key: ∀(c:Addr) (T:String) (o:Obj) (vs:Array Value) (n:Nat) (l:List D),T="list"∨T="tuple"→s.heap.get? c=some o→o.cls= .type T→o.data= .seq vs n→zAK P s.heap vs.toList l→zAI l=true→r= .list l→
   wpAny (model prog w) A (PySem.call (.type "list") [.ref c]) Q E s:=fun c T o vs n l hT g hc hd q hs hr=>by
  have hs:=zAH hs
  have hl:vs.size=l.length:=by rw [←q.length]; simp
  have hz:vs.size≤sizeLine:=by rw [hl,sizeLine_eq]; lia
  subst hr
  refine call_list_seq c hT g hc hd (fun h' c' hk hg=> ?_) hz
  exact hQ _ _ ⟨h',s.toks,rfl,hk⟩ ⟨_,vs,c',rfl,zAw _,hg,q.step (fun a o V e=>hk a o e) fun a o e x=>x.elim id fun x=>by subst x; rw [zAw] at e; cases e⟩
 induction d using PyData.casesOn with
 | list l=>
  obtain ⟨h1,h2⟩:=zAD (show zAA (zAI l) (some (PyData.list l)) none=some r from h)
  obtain ⟨c,vs,n,rfl,g,q⟩:=zBC ra
  exact key c "list" _ vs n l (.inl rfl) g rfl rfl q h1 (Option.some.inj h2).symm
 | tuple l=>
  obtain ⟨h1,h2⟩:=zAD (show zAA (zAI l) (some (PyData.list l)) none=some r from h)
  obtain ⟨c,vs,n,rfl,g,q⟩:=zDY ra
  exact key c "tuple" _ vs n l (.inr rfl) g rfl rfl q h1 (Option.some.inj h2).symm
 | _=>cases h
theorem zPf (W:Wd w G ga mg gcx) {b:B} {fp p:Pos} {l:E} (sl:SL prog w G ga gcx call rc l):SF prog w G ga gcx call rc (.blt b fp l p):=by
 intro A env P fr s Q E d cx hk h hQ
 obtain ⟨k1,k2⟩:=zAN (show zAA (zDP (env.scope.names.lookup b.name)) ((Ck l).k env.scope) false=true from hk)
 obtain ⟨hb,h⟩:=zAD (show zAA (zQK b) (bnd ((Ev gcx call l).lp fr) fun ds=>zSk b ds) none=some d from h)
 obtain ⟨ds,h1,h2⟩:=zAB h
 refine wpAny_Call_Name_kw (zBr W cx k1 ?_)
 show wpAny _ A (callWith p b.val [] (backTo p (starEach (ups nm l) env)) []) Q E s
 induction b with
 | list=>
  obtain ⟨x,rfl,h3⟩:=zAf (show zEj ds _=some d from h2)
  refine zFP sl cx k2 h1 (by simp) fun v vr y dr s' q e r1 r2=> ?_
  obtain ⟨rfl,rfl⟩:=zBK e r2
  exact zFc h3 r1 fun u s₂ q2 r=>hQ u s₂ (Keeps.trans q q2) (r.back q)
 | _=>cases hb
theorem zMy {o:E} (h:zKT o=true) (name:Str) (env:Env):attributeBase (up nm o) name env (eval (up nm o) env)=eval (up nm o) env:=by
 obtain ⟨_,_,rfl⟩:=zGc h; rfl
theorem zKG {P:Addr→Prop} {h:Heap} {v:Value} {kvs:List (D×D)} (r:PkR w P h v (.dict kvs)): ∃c,v= .ref c∧zAc w P h c kvs∧∀a,v= .ref a→∃ob,h.get? a=some ob∧ob.dict=none:=by
 obtain ⟨c,rfl,q⟩:=zDM r
 obtain ⟨o,es,ep,ho,hc,_⟩:=q.at
 exact ⟨c,rfl,q,fun a e=>by cases e; exact ⟨o,ho,hc.2.1⟩⟩
theorem zLa {env:Env} {pos:Pos} {fr:Frm} {l:E}: ∀{ds:List D},(Ev gcx call l).l fr=some ds→(backTo pos (starEach (ups nm l) env)).all (fun x=> !x.1)=true:=by
 induction l using zFS with
 | H r ih=>
  intro ds e
  rcases zIu e with ⟨rfl,_⟩ | ⟨x,y,d,dr,rfl,_,h1,h3⟩
  ·rfl
  ·rw [zAV (zAk h1),zAP,List.all_cons,ih _ _ rfl h3]; rfl
theorem zFa {A:Around} {env:Env} {P:Addr→Prop} {fr:Frm} {s:Shared} {Q:Value→Shared→Prop} {E:Value→Shared→Prop} {pos:Pos} {id:String} {self:Value} {l:Mine.E} {ds:List D} (sl:SL prog w G ga gcx call rc l)
  (cx:Cx w G ga A env P fr s rc) (hk:(Ck l).k env.scope=true) (h:(Ev gcx call l).l fr=some ds)
  (hQ: ∀vs s',Keeps s s'→zAK P s'.heap vs ds→wpAny (model prog w) A (PySem.call (.builtin id) (self :: vs)) Q E s'):
  wpAny (model prog w) A (callWith pos (.builtin id) [self] (backTo pos (starEach (ups nm l) env)) []) Q E s:=by
 rcases zIu h with ⟨rfl,rfl⟩ | ⟨x,y,d,dr,rfl,_,h1,_⟩
 ·exact Calls.callWith_builtin rfl (PySem.evalArgs_none (hQ [] s (Keeps.refl s) .nil))
 refine Calls.callWith_builtin (zDK h) ?_
 have hsp:=sl.l pos A env P fr s (fun vs s'=>wpAny (model prog w) A (PySem.call (.builtin id) (self :: vs)) Q E s') E ds cx hk h fun vs s' k r=>hQ vs s' k r
 rw [zAV (zAk h1),zAP] at hsp ⊢
 exact Calls.evalArgs_plain hsp
theorem zDz {α:Type} {l:List D} {f:D→D→Option α} {r:α} (h:zLV l f=some r): ∃a b,l=[a,b]∧f a b=some r:=by
 induction l using List.casesOn with
 | nil=>cases h
 | cons a l=>
  induction l using List.casesOn with
  | nil=>cases h
  | cons b l=>
   induction l using List.casesOn with
   | nil=>exact ⟨a,b,rfl,h⟩
   | cons _ _=>cases h
theorem zKg {env:Env} {pos:Pos} {l:E} {fr:Frm} {ds:List D} (h:(Ev gcx call l).l fr=some ds) (hn:Nat.ble (Ck l).n 20=true):
  ((backTo pos (starEach (ups nm l) env)).all (fun x=> !x.1)&&(backToKw pos (keywordEach [] env)).all (fun x=>x.1.isSome)
   &&decide ((ups nm l).length + ([]:List Keyword).length + (if ([]:List Keyword).isEmpty then 0 else 1) < 30))=true:=by
 rw [zLa h, ←ckn l]
 have:=Nat.le_of_ble_eq_true hn
 exact Bool.and_eq_true_iff.mpr ⟨rfl,decide_eq_true (show (Ck l).n + 0 + 0 < 30 by lia)⟩
theorem zJi {o l:E} {m:Mth} {mp p:Pos} (so:SE prog w G ga gcx call rc o) (sl:SL prog w G ga gcx call rc l):SE prog w G ga gcx call rc (.meth o m mp l p):=by
 refine SE.ofV ?_ (fun V=>rfl) (fun V=>rfl) (fun V=>rfl)
 intro A env P fr s Q E d cx hk h hQ
 obtain ⟨k1,k2⟩:=zAN (show zAA (zAA (zKT o) (zAA (Nat.beq mp.endLine p.line) (Nat.ble (Ck l).n 20) false) false) (zAA ((Ck o).k env.scope) ((Ck l).k env.scope) false) false=true from hk)
 obtain ⟨k3,k4⟩:=zAN k2
 obtain ⟨k5,k6⟩:=zAN k1
 obtain ⟨k6,k7⟩:=zAN k6
 obtain ⟨a,h1,h⟩:=zAB (show bnd ((Ev gcx call o).p fr) (fun a=>bnd ((Ev gcx call l).l fr) fun ds=>zPx m a ds)=some d from h)
 obtain ⟨ds,h2,h3⟩:=zAB h
 induction m with
 | get=>
  induction a using PyData.casesOn with
  | dict kvs=>
   obtain ⟨k,e,rfl,h4⟩:=zDz (show zLV ds (fun k e=>zAA (zAe k) (zAA (zEq kvs) (Option.rec (motive:=fun V=>Option D) (some e) some (zBt k kvs)) none) none)=some d from h3)
   obtain ⟨h5,h6⟩:=zAD h4
   obtain ⟨h6,h7⟩:=zAD h6
   refine wpAny_Call_method (T:="dict") (id:="dict.get") (zMy k5 _ env) (zKg h2 k7) (by rw [Nat.eq_of_beq_eq_true k6]; simp) F.plainAttrs_dict F.slot_dict_get F.type_dict_get
    (so.p A env P fr s _ E _ cx k3 h1 fun v s₁ q1 r1=> ?_)
   obtain ⟨c,rfl,q,nd⟩:=zKG r1
   obtain ⟨o',es,ep,ho,hc,_⟩:=q.at
   refine ⟨⟨o',ho,hc.1⟩,nd,zFa sl (cx.keeps q1) k4 h2 fun vs s₂ q2 r2=> ?_⟩
   cases r2 with
   | cons ra rb=>
    cases rb with
    | cons rb rn=>
     cases rn
     exact zKm ((cx.keeps q1).keeps q2).units (q.keep fun V V e=>Keeps.get q2 e) h6 ra h5 rb h7 fun v s₃ q3 r3=>hQ v s₃ (Keeps.trans (Keeps.trans q1 q2) q3) r3
  | _=>cases h3
 | _=>cases h3
end
section
variable {prog:Program} {w:World} {A:Around} {tg:Expr} {ds:List D}
theorem zHV {E:Value→Shared→Prop} {s:Shared} {it l:Addr} {Q:Option Value→Shared→Prop} (hh:zAG A s.heap) (hit:s.heap.IsRevIter it l (-1))
  (hQ: ∀h',Heap.ExtBut it s.heap h'→Q none {s with heap:=h'}):wpAny (model prog w) A (pyNext (.ref it)) Q E s:=by
 obtain ⟨o,ho,hc,hd⟩:=id hit
 unfold pyNext
 refine wpAny_bind (wpAny_attempt (wpAny_callSpecial?_slot (name:=Str.ofString "__next__") hit.typeIs F.slot_lri_next
  (wpAny_call_entry F.slot_lri_next hit.typeIs F.entry_lri_next ?_ (F.args_lri_next_1 _))))
 unfold Builtin.«list_reverseiterator.__next__»
 refine wpAny_bind (wpAny_of_eq (a:=(Value.ref it,[])) rfl ?_)
 try dsimp only
 refine wpAny_bind (wpAny_field ho hd (x:=rawInt (-1)) rfl ?_)
 show wpAny _ _ (if (-1:Int) < 0 then _ else _) _ _ s
 rw [if_pos (by decide)]
 refine wpAny_bind (wpAny_rule ?_)
 first
 | (refine wpAny_bind ?_; refine zAS (hh.but rfl ho hd (by simp [rawInt]) (Heap.SameBut.refl ..)) fun e h' hk hx=> ?_)
 | (refine zAS (hh.but rfl ho hd (by simp [rawInt]) (Heap.SameBut.refl ..)) fun e h' hk hx=> ?_)
 refine wpAny_bind (wpAny_isInstance (T:="StopIteration") (b:=true) hx isSubtype_stop ?_)
 exact wpAny_pure (hQ _ fun b o V x=>hk b o x)
def zSo (I l:Addr) (vs:Array Value) (xs:List D) (i:Nat) (P:Addr→Prop) (h:Heap):Prop:=P I∧¬P l∧h.IsRevIter I l ((xs.length:Int) - 1 - i)∧h.IsList l vs∧zAK P h vs.toList xs
theorem Wk.revL {I l:Addr} {vs:Array Value} {xs:List D}:Wk prog w A tg I (· =I) (fun V=>False) (rev xs) (zSo I l vs xs) where
 item:=fun i d P s Q E hd _ ⟨hI,hl,h1,h2,h3⟩ hQ=>by
  have hne:l≠I:=fun e=>hl (e▸hI)
  rw [zEt] at hd
  have hi:i < xs.length:=by simpa using (List.getElem?_eq_some_iff.mp hd).1
  rw [List.getElem?_reverse hi] at hd
  obtain ⟨v,e,r⟩:=h3.get hd
  have ei:((xs.length:Int) - 1 - i)=((xs.length - 1 - i:Nat):Int):=by lia
  rw [ei] at h1
  refine wpAny_pyNext_rev_item h1 h2 (x:=v) (by simpa using e) fun h' hit' hs'=> ?_
  obtain ⟨o,ho,hc,_⟩:=id hit'
  have kb:zAC (· =I) s {s with heap:=h'}:=zAC.same hs' rfl
  have hP: ∀a,a=I→P a:=fun a e=>e▸hI
  refine zAp ho hc (by decide +kernel) (hQ v _ kb (r.keepBut kb hP) ⟨hI,hl, ?_,h2.extBut hs'.extBut hne,h3.keepBut kb hP⟩)
  have:((xs.length - 1 - i:Nat):Int) - 1=(xs.length:Int) - 1 - ((i + 1:Nat):Int):=by lia
  rw [this] at hit'; exact hit'
 done:=fun P s Q E hh ⟨_,_,h1,h2,h3⟩ hQ=>by
  have e:((xs.length:Int) - 1 - ((rev xs).length:Int))= -1:=by rw [zEt,List.length_reverse]; lia
  rw [e] at h1
  exact zHV hh h1 fun h' he'=>hQ _ (zAC.ext he' rfl)
 self:=fun i P s Q E ⟨_,_,h1,_⟩ hQ=>by
  refine wpAny_pyIter_slot h1.typeIs F.slot_lri_iter (wpAny_call_entry F.slot_lri_iter h1.typeIs F.entry_lri_iter ?_ (F.args_lri_iter_1 _))
  show wpAny _ _ (ret (.ref I)) _ _ s
  exact wpAny_pure ⟨_,rfl,"list_reverseiterator",_,h1.typeIs,F.slot_lri_next.lookup,hQ⟩
 frame:=fun i P P' h h' O hOP hO _ hw hP ⟨_,hl,h1,h2,h3⟩ hk=>⟨hw _ rfl,fun x=>hl (hP _ _ h2.choose_spec.1 x),h1.at fun o e=>hk _ o (fun x=>hO _ x rfl) e,h2.at fun o e=>hk _ o (fun x=>hl (hOP _ x)) e,
  h3.step (fun a o na e=>hk a o (fun x=>na (hOP _ x)) e) hP⟩
 live:=fun i P h ⟨hI,_,⟨o,ho,_⟩,_⟩ a ha=>by subst ha; exact ⟨hI,o,ho⟩
end
theorem zEp: ∀(n:Nat) (a:Int) (i:Nat) (d:D),(zCZ a n)[i]? =some d→d= .int (a + i * 1)
 | 0,a,i,d,h=>by
  have h:([]:List D)[i]? =some d:=h
  simp at h
 | n + 1,a,i,d,h=>by
  have e:zCZ a (n + 1)= .int a :: zCZ (a + 1) n:=by
   show PyData.int a :: zDB (Int.add a 1) _=_
   rw [zBh]; rfl
  rw [e] at h
  induction i with
  | zero=>simp at h; subst h; simp
  | succ i=>
   simp only [List.getElem?_cons_succ] at h
   have:=zEp n (a + 1) i d h
   rw [this]; congr 1; simp; lia
theorem zCs: ∀(n:Nat) (a:Int),(zCZ a n).length=n
 | 0,a=>rfl
 | n + 1,a=>by
  have e:zCZ a (n + 1)= .int a :: zCZ (a + 1) n:=by
   show PyData.int a :: zDB (Int.add a 1) _=_
   rw [zBh]; rfl
  rw [e,List.length_cons,zCs n]
theorem zFH: ∀(n:Nat) (a:Int) (i:Nat) (d:D),(zCb a n)[i]? =some d→d= .int (a + i * (-1))
 | 0,a,i,d,h=>by
  have h:([]:List D)[i]? =some d:=h
  simp at h
 | n + 1,a,i,d,h=>by
  have e:zCb a (n + 1)= .int a :: zCb (a - 1) n:=by
   show PyData.int a :: zDB (Int.sub a 1) _=_
   rw [zBh]; rfl
  rw [e] at h
  induction i with
  | zero=>simp at h; subst h; simp
  | succ i=>
   simp only [List.getElem?_cons_succ] at h
   have:=zFH n (a - 1) i d h
   rw [this]; congr 1; simp; lia
theorem zDC: ∀(n:Nat) (a:Int),(zCb a n).length=n
 | 0,a=>rfl
 | n + 1,a=>by
  have e:zCb a (n + 1)= .int a :: zCb (a - 1) n:=by
   show PyData.int a :: zDB (Int.sub a 1) _=_
   rw [zBh]; rfl
  rw [e,List.length_cons,zDC n]
theorem zDX (a b:Int):Builtin.Range.rangeSize a b (-1)=if b < a then a - b else 0:=by
 unfold Builtin.Range.rangeSize
 rw [if_neg (by decide)]
 by_cases h:b < a
 ·rw [if_pos h,if_pos h]; simp
 ·rw [if_neg h,if_neg h]
theorem zLe {a b:Int} (ha: -(2 ^ 62)≤a) (ha':a < 2 ^ 62) (hb: -(2 ^ 62)≤b) (hb':b < 2 ^ 62):Builtin.Range.small a b (-1)=true:=by
 unfold Builtin.Range.small
 rw [zDX]
 simp only [Builtin.Range.rangeFitsLong,Bool.and_eq_true,Bool.or_eq_true,decide_eq_true_eq,beq_iff_eq,show ¬((-1:Int) > 0) by decide,if_false]
 by_cases h:b < a
 ·rw [if_pos h]; refine ⟨⟨⟨⟨?_, ?_⟩, ?_⟩, ?_⟩, .inr ?_⟩ <;> lia
 ·rw [if_neg h]; refine ⟨⟨⟨⟨?_, ?_⟩, ?_⟩, ?_⟩, .inl rfl⟩ <;> lia
section
variable {prog:Program} {w:World} {A:Around} {E:Value→Shared→Prop} {s:Shared} {P:Addr→Prop}
def zLI (prog:Program) (w:World) (A:Around) (P:Addr→Prop) (tg:Expr) (ds:List D) (rdOk:(Addr→Prop)→Prop) (s:Shared) (it:Value) (s':Shared):Prop:=
 ∃I wr rd St,it= .ref I∧Keeps s s'∧(∀a,wr a→s.heap.get? a=none)∧rdOk rd∧Wk prog w A tg I wr rd ds St∧St 0 (fun a=>P a∨wr a) s'.heap
def zON (rd:Addr→Prop):Prop:=∀a,¬rd a
theorem zBG {P:Addr→Prop} {h:Heap} {a:Addr} {o:Obj} (e:h.get? a=some o):a≠h.objs.size:=fun x=>by subst x; exact absurd (Heap.lt_size e) (Nat.lt_irrefl _)
theorem zKL {tg:Expr} {v:Value} {xs:List D} {Q:Value→Shared→Prop} (r:RdW P s.heap v (.list xs)) (hQ: ∀it s',zLI prog w A P tg xs zON s it s'→Q it s'):wpAny (model prog w) A (pyIter v) Q E s:=by
 obtain ⟨l,vs,n,rfl,g,hl,q⟩:=r.listInv
 refine wpAny_pyIter_list (zAL g) (hQ _ _ ⟨_,(· =s.heap.objs.size),_,_,rfl,Keeps.push s _,fun a e=>e▸zAw _,fun a=>id,Wk.list (l:=l) (vs:=vs), .inr rfl, ?_,⟨_,Heap.get?_push_size _ rfl,rfl,rfl⟩,(zAL g).at fun o e=>Heap.get?_push_of_some _ e, ?_⟩)
 ·rintro (x | x)
  ·exact hl x
  ·exact zBG (P:=P) g x
 ·exact q.step (fun V V V e=>Heap.get?_push_of_some _ e) fun a o e x=>x.elim id fun x=>absurd x (zBG (P:=P) e)
theorem zLq {tg:Expr} {v:Value} {xs:List D} {Q:Value→Shared→Prop} (r:RdW P s.heap v (.tuple xs)) (hQ: ∀it s',zLI prog w A P tg xs zON s it s'→Q it s'):wpAny (model prog w) A (pyIter v) Q E s:=by
 obtain ⟨l,vs,n,rfl,g,hl,q⟩:=r.tupInv
 refine wpAny_pyIter_tuple (zAt g) (hQ _ _ ⟨_,(· =s.heap.objs.size),_,_,rfl,Keeps.push s _,fun a e=>e▸zAw _,fun a=>id,Wk.tup (l:=l) (vs:=vs), .inr rfl, ?_,⟨_,Heap.get?_push_size _ rfl,rfl,rfl⟩,Heap.IsTuple.at (zAt g) fun o e=>Heap.get?_push_of_some _ e, ?_⟩)
 ·rintro (x | x)
  ·exact hl x
  ·exact zBG (P:=P) g x
 ·exact q.step (fun V V V e=>Heap.get?_push_of_some _ e) fun a o e x=>x.elim id fun x=>absurd x (zBG (P:=P) e)
theorem zLr {tg:Expr} {v:Value} {xs:List D} {Q:Value→Shared→Prop} (r:RdW P s.heap v (.list xs)) (hQ: ∀it s',zLI prog w A P tg (rev xs) zON s it s'→Q it s'):
  wpAny (model prog w) A (PySem.call (.type "reversed") [v]) (fun x s₁=>wpAny (model prog w) A (pyIter x) Q E s₁) E s:=by
 obtain ⟨l,vs,n,rfl,g,hl,q⟩:=r.listInv
 have hlen:vs.size=xs.length:=by rw [←q.length]; simp
 have st:zSo s.heap.objs.size l vs xs 0 (fun a=>P a∨a=s.heap.objs.size) (s.heap.push (revObj l ((vs.size:Int) - 1))):=by
  refine ⟨.inr rfl, ?_, ?_,(zAL g).at fun o e=>Heap.get?_push_of_some _ e,q.step (fun V V V e=>Heap.get?_push_of_some _ e) fun a o e x=>x.elim id fun x=>absurd x (zBG (P:=P) e)⟩
  ·rintro (x | x)
   ·exact hl x
   ·exact zBG (P:=P) g x
  ·refine ⟨_,Heap.get?_push_size _ rfl,rfl, ?_⟩
   show Data.fields #[.ref l,rawInt ((vs.size:Int) - 1)]=_
   rw [hlen]; simp
 exact call_reversed_list (zAL g) (Wk.revL (prog:=prog) (w:=w) (A:=A) (tg:=tg).self 0 _ _ _ _ st (hQ _ _ ⟨_,(· =s.heap.objs.size),_,_,rfl,Keeps.push s _,fun a e=>e▸zAw _,fun a=>id,Wk.revL,st⟩))
theorem zKM {elts:List Expr} {k:Nat} {pos:Pos} {v:Value} {xs:List D} {Q:Value→Shared→Prop} (r:RdW P s.heap v (.list xs)) (hQ: ∀it s',zLI prog w A P (.Tuple elts k pos) (zDl 0 xs) zON s it s'→Q it s'):
  wpAny (model prog w) A (PySem.call (.type "enumerate") [v]) (fun x s₁=>wpAny (model prog w) A (pyIter x) Q E s₁) E s:=by
 obtain ⟨l,vs,n,rfl,g,hl,q⟩:=r.listInv
 refine call_enumerate_list (zAL g) fun h' he hit hz hk=> ?_
 have n0:s.heap.get? s.heap.objs.size=none:=zAw _
 have n1:s.heap.get? (s.heap.objs.size + 1)=none:=by
  cases e:s.heap.get? (s.heap.objs.size + 1) with
  | none=>rfl
  | some o=>exact absurd (Heap.lt_size e) (Nat.not_lt.mpr (Nat.le_succ _))
 have old: ∀a o,s.heap.get? a=some o→¬(a=s.heap.objs.size + 1∨a=s.heap.objs.size):=fun a o e x=>by
  rcases x with rfl | rfl
  ·rw [n1] at e; cases e
  ·rw [n0] at e; cases e
 have st:zNi (s.heap.objs.size + 1) s.heap.objs.size l vs xs 0 (fun a=>P a∨(a=s.heap.objs.size + 1∨a=s.heap.objs.size)) h':=
  ⟨.inr (.inl rfl), .inr (.inr rfl),Nat.succ_ne_self _,fun x=>x.elim hl (old _ _ g),⟨.none,he⟩,hit,(zAL g).at fun o e=>hk _ o e,q.step (fun a o V e=>hk a o e) fun a o e x=>x.elim id fun x=>absurd x (old a o e)⟩
 refine (Wk.enum (prog:=prog) (w:=w) (A:=A) (elts:=elts) (k:=k) (pos:=pos)).self 0 _ {s with heap:=h'} _ _ st (hQ _ _ ⟨_,_,_,_,rfl,⟨h',s.toks,rfl,hk⟩,fun a e=> ?_,fun a=>id,Wk.enum,st⟩)
 rcases e with rfl | rfl
 ·exact n1
 ·exact n0
end
section
variable {prog:Program} {w:World} {G:Heap} {ga:Addr×Addr} {mg:Str→Option Value} {gcx:Nat→Option D} {call:Nat→List D→Option D} {rc:Nat}
def rdSt (s:Shared) (me:Bool) (rd:Addr→Prop):Prop:=(∀a,rd a→∃o,s.heap.get? a=some o)∧(me=false→zON rd)
theorem zLI.back {A:Around} {P:Addr→Prop} {tg:Expr} {ds:List D} {me:Bool} {s₀ s s':Shared} {it:Value} (k:Keeps s₀ s) (x:zLI prog w A P tg ds zON s it s'):zLI prog w A P tg ds (rdSt s₀ me) s₀ it s':=by
 obtain ⟨I,wr,rd,St,e,k',h1,h2,h3,h4⟩:=x
 refine ⟨I,wr,rd,St,e,Keeps.trans k k',fun a ha=> ?_,⟨fun a r=>absurd r (h2 a),fun V=>h2⟩,h3,h4⟩
 cases e:s₀.heap.get? a with
 | none=>rfl
 | some o=>have:=Keeps.get k e; rw [h1 a ha] at this; cases this
variable (prog w G ga gcx call rc) in
def SI (e:E):Prop:=∀(A:Around) (env:Env) (P:Addr→Prop) (fr:Frm) (s:Shared) (Q:Value→Shared→Prop) (E:Value→Shared→Prop) (ds:List D) (tg:Expr),Cx w G ga A env P fr s rc→(Ck e).k env.scope=true→
  (zEO e=true→∃elts k pos,tg= .Tuple elts k pos)→(Ev gcx call e).i fr=some ds→(∀it s',zLI prog w A P tg ds (rdSt s (zIJ e)) s it s'→Q it s')→
  wpAny (model prog w) A (eval (up nm e) env) (fun xv s₁=>wpAny (model prog w) A (pyIter xv) Q E s₁) E s
theorem SI.vac {e:E} (hi:(Ev gcx call e).i=noL):SI prog w G ga gcx call rc e:=by
 intro A env P fr s Q E ds tg cx hk ht h hQ
 rw [hi] at h; cases h
theorem SI.ofV {e:E} (se:SE prog w G ga gcx call rc e) (hi: ∀fr,(Ev gcx call e).i fr=bnd ((Ev gcx call e).v fr) zKS):SI prog w G ga gcx call rc e:=by
 intro A env P fr s Q E ds tg cx hk ht h hQ
 rw [hi] at h
 obtain ⟨d,h1,h2⟩:=zAB h
 refine se.v A env P fr s _ E d cx hk h1 fun v s₁ q1 r1=> ?_
 induction d using PyData.casesOn with
 | list xs=>
  cases (show some xs=some ds from h2)
  exact zKL r1 fun it s' m=>hQ it s' (m.back q1)
 | tuple xs=>
  cases (show some xs=some ds from h2)
  exact zLq r1 fun it s' m=>hQ it s' (m.back q1)
 | _=>cases h2
theorem zHO {A:Around} {P:Addr→Prop} {s:Shared} {Q:Value→Shared→Prop} {E:Value→Shared→Prop} {v:Value} {vr:List Value} {d:D} {dr ds:List D} {tg:Expr} (h:zJt (d :: dr)=some ds) (ra:PkR w P s.heap v d) (rr:zAK P s.heap vr dr)
  (hQ: ∀it s',zLI prog w A P tg ds zON s it s'→Q it s'):wpAny (model prog w) A (PySem.call (.type "range") (v :: vr)) (fun x s₁=>wpAny (model prog w) A (pyIter x) Q E s₁) E s:=by
 obtain ⟨a,rfl,h⟩:=zBm (show zAO d (fun a=>onL dr (zEG 0 a) fun b r=>zAO b (fun b=>onL r (zEG a b) fun c r=>onL r (zAO c (fun c=>zAA (eqI c (-1)) (zJu a b) none) none) fun V V=>none) none) none=some ds from h)
 obtain ⟨t,rfl⟩:=zJy ra
 have r2: ∀{a b:Int} {ds:List D},zEG a b=some ds→ds=zCZ a (b - a).toNat∧a.natAbs < 2 ^ 62∧b.natAbs < 2 ^ 62:=fun {a b ds} h=>by
  obtain ⟨h1,h⟩:=zAD (show zAA (zAU a) (zAA (zAU b) (zDA (toN (Int.sub b a)) fun n=>zAA (Nat.ble n 100000) (some (zCZ a n)) none) none) none=some ds from h)
  obtain ⟨h2,h⟩:=zAD h
  rw [zCz] at h
  obtain ⟨h3,h⟩:=zAD h
  cases h
  rw [zHv]
  exact ⟨rfl,zAq h1,zAq h2⟩
 have r3: ∀{a b:Int} {ds:List D},zJu a b=some ds→ds=zCb a (a - b).toNat∧a.natAbs < 2 ^ 62∧b.natAbs < 2 ^ 62:=fun {a b ds} h=>by
  obtain ⟨h1,h⟩:=zAD (show zAA (zAU a) (zAA (zAU b) (zDA (toN (Int.sub a b)) fun n=>zAA (Nat.ble n 100000) (some (zCb a n)) none) none) none=some ds from h)
  obtain ⟨h2,h⟩:=zAD h
  rw [zCz] at h
  obtain ⟨h3,h⟩:=zAD h
  cases h
  rw [zHv]
  exact ⟨rfl,zAq h1,zAq h2⟩
 have up: ∀(a b:Int) (s₁:Shared) (t u v:Tok) (r:Addr),Keeps s s₁→a.natAbs < 2 ^ 62→b.natAbs < 2 ^ 62→IsRange s₁.heap r a b 1 t u v→ds=zCZ a (b - a).toNat→wpAny (model prog w) A (pyIter (.ref r)) Q E s₁:=fun a b s₁ t u v r k ha hb hr hd=>by
  refine wpAny_pyIter_range hr (small_one (by lia) (by lia) (by lia) (by lia)) (hQ _ _ ⟨_,(· =s₁.heap.objs.size),fun V=>False,_,rfl,Keeps.trans k (Keeps.push s₁ _), ?_,fun a=>id,Wk.range (a:=a) (c:=1) (ds:=ds) ?_, .inr rfl, ?_⟩)
  ·intro x e
   subst e
   cases e:s.heap.get? s₁.heap.objs.size with
   | none=>rfl
   | some o=>exact absurd (Heap.lt_size (Keeps.get k e)) (Nat.lt_irrefl _)
  ·subst hd; exact fun i d e=>zEp _ _ i d e
  ·have e1:a + ((0:Nat):Int) * 1=a:=by simp
   have e2:((ds.length:Nat):Int) - ((0:Nat):Int)=Builtin.Range.rangeSize a b 1:=by
    subst hd
    rw [zCs,rangeSize_one]
    by_cases hab:a < b
    ·rw [if_pos hab]; lia
    ·rw [if_neg hab]; lia
   rw [e1,e2]
   exact Heap.get?_push_size _ rfl
 have dn: ∀(a b:Int) (s₁:Shared) (t u v:Tok) (r:Addr),Keeps s s₁→a.natAbs < 2 ^ 62→b.natAbs < 2 ^ 62→IsRange s₁.heap r a b (-1) t u v→ds=zCb a (a - b).toNat→wpAny (model prog w) A (pyIter (.ref r)) Q E s₁:=fun a b s₁ t u v r k ha hb hr hd=>by
  refine wpAny_pyIter_range hr (zLe (by lia) (by lia) (by lia) (by lia)) (hQ _ _ ⟨_,(· =s₁.heap.objs.size),fun V=>False,_,rfl,Keeps.trans k (Keeps.push s₁ _), ?_,fun a=>id,Wk.range (a:=a) (c:= -1) (ds:=ds) ?_, .inr rfl, ?_⟩)
  ·intro x e
   subst e
   cases e:s.heap.get? s₁.heap.objs.size with
   | none=>rfl
   | some o=>exact absurd (Heap.lt_size (Keeps.get k e)) (Nat.lt_irrefl _)
  ·subst hd; exact fun i d e=>zFH _ _ i d e
  ·have e1:a + ((0:Nat):Int) * (-1)=a:=by simp
   have e2:((ds.length:Nat):Int) - ((0:Nat):Int)=Builtin.Range.rangeSize a b (-1):=by
    subst hd
    rw [zDC,zDX]
    by_cases hab:b < a
    ·rw [if_pos hab]; lia
    ·rw [if_neg hab]; lia
   rw [e1,e2]
   exact Heap.get?_push_size _ rfl
 cases rr with
 | nil=>
  obtain ⟨hd,ha,hb⟩:=r2 (show zEG 0 a=some ds from h)
  refine call_range_1 (up 0 a _ _ _ _ _ ⟨_,_,rfl,fun V V e=>Heap.get?_push_of_some _ e⟩ ha hb (IsRange.new ..) hd)
 | cons rb rr=>
  obtain ⟨b,rfl,h⟩:=zBm h
  obtain ⟨u,rfl⟩:=rb.intInv
  cases rr with
  | nil=>
   obtain ⟨hd,ha,hb⟩:=r2 (show zEG a b=some ds from h)
   exact call_range_2 (up a b _ _ _ _ _ ⟨_,_,rfl,fun V V e=>Heap.get?_push_of_some _ e⟩ ha hb (IsRange.new ..) hd)
  | cons rc' rr=>
   cases rr with
   | nil=>
    obtain ⟨c,rfl,h⟩:=zBm h
    obtain ⟨h1,h2⟩:=zAD h
    rw [zDd] at h1
    have h1:=of_decide_eq_true h1
    subst h1
    obtain ⟨x,rfl⟩:=rc'.intInv
    obtain ⟨hd,ha,hb⟩:=r3 h2
    exact call_range_3 (by decide) (dn a b _ _ _ _ _ ⟨_,_,rfl,fun V V e=>Heap.get?_push_of_some _ e⟩ ha hb (IsRange.new ..) hd) (.inl (PyProof.noPylong_small (by decide)))
   | cons _ _=>cases h
end
section
variable {prog:Program} {w:World} {G:Heap} {ga:Addr×Addr} {mg:Str→Option Value} {gcx:Nat→Option D} {call:Nat→List D→Option D} {rc:Nat}
theorem zHu {A:Around} {env:Env} {P:Addr→Prop} {fr:Frm} {s:Shared} {Q:Value→Shared→Prop} {E:Value→Shared→Prop} {pos:Pos} {T:String} {l:Mine.E} {ds:List D} (sl:SL prog w G ga gcx call rc l)
  (cx:Cx w G ga A env P fr s rc) (hk:(Ck l).k env.scope=true) (h:(Ev gcx call l).l fr=some ds) (hne:ds≠[])
  (hQ: ∀vs s',Keeps s s'→zAK P s'.heap vs ds→wpAny (model prog w) A (PySem.call (.type T) vs) Q E s'):
  wpAny (model prog w) A (callWith pos (.type T) [] (backTo pos (starEach (ups nm l) env)) []) Q E s:=by
 rcases zIu h with ⟨_,e⟩ | ⟨x,y,d,dr,rfl,_,h1,_⟩
 ·exact absurd e hne
 refine PySem.callWith_type (zDK h) ?_
 have hsp:=sl.l pos A env P fr s (fun vs s'=>wpAny (model prog w) A (PySem.call (.type T) vs) Q E s') E ds cx hk h hQ
 rw [zAV (zAk h1),zAP] at hsp ⊢
 exact Calls.evalArgs_plain hsp
theorem zBl {α:Type} {d:D} {f:List D→Option α} {r:α} (h:zAz d f none=some r): ∃l,d= .list l∧f l=some r:=by
 cases d <;> first | exact ⟨_,rfl,h⟩ | cases h
theorem zPc (W:Wd w G ga mg gcx) {b:B} {fp p:Pos} {l:E} (sl:SL prog w G ga gcx call rc l):SI prog w G ga gcx call rc (.blt b fp l p):=by
 intro A env P fr s Q E ds tg cx hk ht h hQ
 obtain ⟨k1,k2⟩:=zAN (show zAA (zDP (env.scope.names.lookup b.name)) ((Ck l).k env.scope) false=true from hk)
 refine wpAny_Call_Name_kw (zBr W cx k1 ?_)
 show wpAny _ A (callWith p b.val [] (backTo p (starEach (ups nm l) env)) []) _ E s
 induction b with
 | range=>
  obtain ⟨as,h1,h2⟩:=zAB (show bnd ((Ev gcx call l).lp fr) (fun ds=>zJt ds)=some ds from h)
  have hne:as≠[]:=fun e=>by subst e; cases h2
  refine zFP sl cx k2 h1 hne fun v vr d dr s' q e r1 r2=> ?_
  subst e
  exact zHO h2 r1 r2 fun it s₂ m=>hQ it s₂ (m.back q)
 | enumerate=>
  obtain ⟨as,h1,h2⟩:=zAB (show bnd ((Ev gcx call l).l fr) (fun ds=>zEj ds fun d=>zAz d (fun l=>zAA (zAI l) (some (zDl 0 l)) none) none)=some ds from h)
  obtain ⟨x,rfl,h3⟩:=zAf h2
  obtain ⟨xs,rfl,h4⟩:=zBl h3
  obtain ⟨_,h5⟩:=zAD h4
  cases h5
  obtain ⟨elts,k,pos,rfl⟩:=ht rfl
  refine zHu sl cx k2 h1 (by simp) fun vs s' q r=> ?_
  cases r with
  | cons ra rn=>
   cases rn
   exact zKM ra fun it s₂ m=>hQ it s₂ (m.back q)
 | reversed=>
  obtain ⟨as,h1,h2⟩:=zAB (show bnd ((Ev gcx call l).l fr) (fun ds=>zEj ds fun d=>zAz d (fun l=>zAA (zAI l) (some (rev l)) none) none)=some ds from h)
  obtain ⟨x,rfl,h3⟩:=zAf h2
  obtain ⟨xs,rfl,h4⟩:=zBl h3
  obtain ⟨_,h5⟩:=zAD h4
  cases h5
  refine zHu sl cx k2 h1 (by simp) fun vs s' q r=> ?_
  cases r with
  | cons ra rn=>
   cases rn
   exact zLr ra fun it s₂ m=>hQ it s₂ (m.back q)
 | len=>obtain ⟨_,_,h2⟩:=zAB (show bnd ((Ev gcx call l).lp fr) (fun V=>none)=some ds from h); cases h2
 | abs=>obtain ⟨_,_,h2⟩:=zAB (show bnd ((Ev gcx call l).lp fr) (fun V=>none)=some ds from h); cases h2
 | max=>obtain ⟨_,_,h2⟩:=zAB (show bnd ((Ev gcx call l).lp fr) (fun V=>none)=some ds from h); cases h2
 | min=>obtain ⟨_,_,h2⟩:=zAB (show bnd ((Ev gcx call l).lp fr) (fun V=>none)=some ds from h); cases h2
 | list=>obtain ⟨_,_,h2⟩:=zAB (show bnd ((Ev gcx call l).lp fr) (fun V=>none)=some ds from h); cases h2
 | tuple=>obtain ⟨_,_,h2⟩:=zAB (show bnd ((Ev gcx call l).lp fr) (fun V=>none)=some ds from h); cases h2
 | sorted=>obtain ⟨_,_,h2⟩:=zAB (show bnd ((Ev gcx call l).lp fr) (fun V=>none)=some ds from h); cases h2
 | all=>obtain ⟨_,_,h2⟩:=zAB (show bnd ((Ev gcx call l).lp fr) (fun V=>none)=some ds from h); cases h2
theorem zER {A:Around} {P:Addr→Prop} {s:Shared} {Q:Value→Shared→Prop} {E:Value→Shared→Prop} {c:Addr} {kvs:List (D×D)} {elts:List Expr} {k:Nat} {pos p:Pos} (T:zAc w P s.heap c kvs) (ht:zEq kvs=true)
  (hQ: ∀it s',zLI prog w A P (.Tuple elts k pos) (zGb kvs) (fun rd=>rd=(· =c)) s it s'→Q it s'):
  wpAny (model prog w) A (callWith p (.builtin "dict.items") [.ref c] [] []) (fun x s₁=>wpAny (model prog w) A (pyIter x) Q E s₁) E s:=by
 refine Calls.callWith_builtin rfl (PySem.evalArgs_none ?_)
 show wpAny _ A (PySem.call (.builtin "dict.items") [.ref c]) _ _ _
 obtain ⟨o,es,ep,ho,hc,hd,en⟩:=(T.tup ht).ents
 have hcl:=Heap.lt_size ho
 refine zJG (es:=es) (ep:=ep) ho hc T.1 ?_
 have hsz: ∀x:Obj,(s.heap.push x).objs.size=s.heap.objs.size + 1:=fun x=>Heap.size_push ..
 have wk:Wk prog w A (.Tuple elts k pos) (s.heap.objs.size + 1) (fun a=>a=s.heap.objs.size + 1) (fun a=>a=c) (zGb kvs) (zLE (s.heap.objs.size + 1) c o es ep kvs):=Wk.items (c:=c) hd
 refine zIv (v:=s.heap.objs.size) ⟨_,Heap.get?_push_size _ rfl,rfl,rfl⟩ (Heap.get?_push_of_some _ ho) hd (hQ _ _ ⟨_,(fun a=>a=s.heap.objs.size + 1),_,_, ?_,Keeps.trans (Keeps.push s _) (Keeps.push _ _), ?_,rfl,wk, .inr rfl, ?_,⟨.none, .none, ?_⟩,Heap.get?_push_of_some _ (Heap.get?_push_of_some _ ho), ?_⟩)
 ·show Value.ref ((s.heap.push _).objs.size)=_
  rw [hsz]
 ·intro a e
  subst e
  cases e:s.heap.get? (s.heap.objs.size + 1) with
  | none=>rfl
  | some o=>exact absurd (Heap.lt_size e) (Nat.not_lt.mpr (Nat.le_succ _))
 ·intro e; rw [←e] at hcl; exact absurd hcl (Nat.not_lt.mpr (Nat.le_succ _))
 ·have:=Heap.get?_push_size (s.heap.push {cls:= .type "dict_items",data:= .fields #[.ref c]}) (o:={cls:= .type "dict_itemiterator",data:= .fields #[.none, .bool false, .ref c, .int 0 0, .int es.size 0, .int ep 0, .none, .none]}) rfl
  rw [hsz] at this; exact this
 ·refine en.step (fun a o V e=>Heap.get?_push_of_some _ (Heap.get?_push_of_some _ e)) fun a o e x=>x.elim id fun x=> ?_
  have:=Heap.lt_size e
  rw [x] at this
  exact absurd this (Nat.not_lt.mpr (Nat.le_succ _))
theorem zOC {o l:E} {m:Mth} {mp p:Pos}:SI prog w G ga gcx call rc (.meth o m mp l p):=by
 intro A env P fr s Q E ds tg cx hk ht h hQ
 obtain ⟨k1,k2⟩:=zAN (show zAA (zAA (zKT o) (zAA (Nat.beq mp.endLine p.line) (Nat.ble (Ck l).n 20) false) false) (zAA ((Ck o).k env.scope) ((Ck l).k env.scope) false) false=true from hk)
 obtain ⟨k3,k4⟩:=zAN k2
 obtain ⟨k5,k6⟩:=zAN k1
 obtain ⟨k6,k7⟩:=zAN k6
 obtain ⟨a,h1,h⟩:=zAB (show bnd ((Ev gcx call o).p fr) (fun a=>bnd ((Ev gcx call l).l fr) fun ds=>zLo m a ds)=some ds from h)
 obtain ⟨as,h2,h3⟩:=zAB h
 obtain ⟨rfl,rfl,kvs,rfl,_,h8,rfl⟩:=zEz h3
 obtain ⟨elts,k,pos,htt⟩:=ht rfl
 obtain ⟨x,px,rfl⟩:=zGc k5
 subst htt
 show wpAny _ A (eval (.Call (.Attribute (.Name (nm x) px) (Mth.name .items) mp) (ups nm l) [] p) env) _ E s
 rw [zQE h2]
 refine wpAny_Call_method (T:="dict") (id:="dict.items") rfl rfl (by rw [Nat.eq_of_beq_eq_true k6]; simp) F.plainAttrs_dict F.slot_dict_items F.type_dict_items ?_
 obtain ⟨sl,h9,h10⟩:=zAB (show bnd (zAE x fr) _=some (PyData.dict kvs) from h1)
 refine zDN cx.ok k3 h9 fun v r=> ?_
 have r1:PkR w P s.heap v (.dict kvs):=by
  induction sl with
  | val d'=>cases h10; exact .inl r
  | own d'=>cases h10; exact .inr r.1
 obtain ⟨c,rfl,q,nd⟩:=zKG r1
 obtain ⟨o',es,ep,ho,hc,_⟩:=q.at
 refine ⟨⟨o',ho,hc.1⟩,nd,zER (elts:=elts) (k:=k) (pos:=pos) q h8 fun it s₂ m=>hQ it s₂ ?_⟩
 obtain ⟨I,wr,rd,St,e,k',g1,g2,g3,g4⟩:=m
 subst g2
 exact ⟨I,wr,(fun a=>a=c),St,e,k',g1,⟨fun a (e:a=c)=>⟨o',e▸ho⟩,fun e=>Bool.noConfusion e⟩,g3,g4⟩
end
theorem zDj {h:Heap} {a:Addr} {m m':Str→Option Value} (x:h.Ns a m) (y:h.Ns a m'):m=m':=by
 obtain ⟨o,es,ep,ho,hd,_,hf⟩:=x
 obtain ⟨o',es',ep',ho',hd',_,hf'⟩:=y
 rw [ho] at ho'; cases ho'
 rw [hd] at hd'; cases hd'
 funext n; rw [←hf n, ←hf' n]
def zOx (tg:Option (List Nat)) (x:Nat):Prop:=match tg with | none=>True | some l=>x∈l
section
variable {w:World}
def zJJ (w:World) (Z X O:Addr→Prop) (L:Addr) (full:Bool) (h:Heap) (v:Value):Slot→Prop
 | .val d=>RdW (fun a=>Z a∨X a∨O a) h v d
 | .own d=>zHE w (fun a=>Z a∨X a∨O a) h v d∧∃a,v= .ref a∧(O a∨Z a)∧(full=true→O a)∧a≠L
structure FrW (w:World) (G:Heap) (env:Env) (Z X O:Addr→Prop) (tg:Option (List Nat)) (fr:Frm) (s:Shared):Prop where
 glob: ∀a o,G.get? a=some o→s.heap.get? a=some o∧¬(Z a∨X a∨O a)
 live: ∀a,Z a∨X a∨O a→∃o,s.heap.get? a=some o
 dO: ∀a,O a→¬Z a∧¬X a
 dX: ∀a,X a→¬Z a
 kind:env.scope.kind= .function
 loc:O env.locals
 cells: ∀n,env.kindOf n=some .cell→∃c v,env.cells.lookup n=some c∧s.heap.IsCell c v
 cset: ∀n c,env.cells.lookup n=some c→O c∨Z c
 ccell: ∀n c,env.cells.lookup n=some c→∃v,s.heap.IsCell c v
 cinj: ∀m n c,env.cells.lookup m=some c→env.cells.lookup n=some c→m=n
 cw: ∀x c,zOx tg x→kN env.scope x=some .cell→env.cells.lookup (nm x)=some c→O c
 names: ∃m,s.heap.Ns env.locals m∧(∀x sl,zAE x fr=some sl→kN env.scope x=some .local∨kN env.scope x=some .cell→∃v,Holds env s.heap m x v∧zJJ w Z X O env.locals tg.isNone s.heap v sl)∧
  (tg=none→∀x y dx dy v u,x≠y→zAE x fr=some (.own dx)→zAE y fr=some (.own dy)→Holds env s.heap m x v→Holds env s.heap m y u→v≠u)
abbrev PP (Z X O:Addr→Prop):Addr→Prop:=fun a=>Z a∨X a∨O a
variable {G:Heap} {env:Env} {Z X O:Addr→Prop} {tg:Option (List Nat)} {fr:Frm} {s s':Shared}
theorem FrW.ex (F:FrW w G env Z X O tg fr s):zPL w G env (PP Z X O) fr s where
 glob:=F.glob
 live:=F.live
 kind:=F.kind
 cells:=F.cells
 cset:=fun n c e=>(F.cset n c e).elim (fun x=> .inr (.inr x)) .inl
 cinj:=F.cinj
 names:=by
  obtain ⟨m,hn,hv,_⟩:=F.names
  refine ⟨m,hn,fun x sl e hk=> ?_⟩
  obtain ⟨v,h1,h2⟩:=hv x sl e hk
  refine ⟨v,h1, ?_⟩
  induction sl with
  | val d=>exact h2
  | own d=>
   obtain ⟨h2,a,e,h3,_⟩:=h2
   exact ⟨h2,fun b eb=>by rw [e] at eb; cases eb; exact h3.elim (fun x=> .inr (.inr x)) .inl⟩
theorem Holds.keep {h h':Heap} {m:Str→Option Value} {x:Nat} {v:Value} (y:Holds env h m x v) (hk: ∀a o,h.get? a=some o→h'.get? a=some o):Holds env h' m x v:=
 y.imp id fun ⟨a,c,e,r⟩=>⟨a,c,e,r.keeps hk⟩
theorem Holds.inj {h:Heap} {m:Str→Option Value} {x:Nat} {v u:Value} (y:Holds env h m x v) (z:Holds env h m x u):v=u:=by
 rcases y with ⟨k,e⟩ | ⟨k,c,e,r⟩ <;> rcases z with ⟨k',e'⟩ | ⟨k',c',e',r'⟩
 ·rw [e] at e'; cases e'; rfl
 ·rw [k] at k'; cases k'
 ·rw [k] at k'; cases k'
 ·rw [e] at e'; cases e'
  obtain ⟨o,ho,hd⟩:=r; obtain ⟨o',ho',hd'⟩:=r'
  rw [ho] at ho'; cases ho'
  rw [hd] at hd'; cases hd'; rfl
theorem Holds.kind {h:Heap} {m:Str→Option Value} {x:Nat} {v:Value} (y:Holds env h m x v):kN env.scope x=some .local∨kN env.scope x=some .cell:=y.imp (·.1) (·.1)
theorem zHE.step {P P':Addr→Prop} {h h':Heap} {v:Value} {d:D} (x:zHE w P h v d) (ha: ∀a o,v= .ref a→h.get? a=some o→h'.get? a=some o) (hk: ∀a o,¬P a→h.get? a=some o→h'.get? a=some o) (hw: ∀a o,h.get? a=some o→P' a→P a):zHE w P' h' v d:=by
 induction d using PyData.casesOn with
 | list xs=>obtain ⟨a,vs,n,e,g,r⟩:=x; exact ⟨a,vs,n,e,ha _ _ e g,r.step hk hw⟩
 | dict kvs=>obtain ⟨a,e,r⟩:=x; exact ⟨a,e,r.step (fun o=>ha _ o e) hk hw⟩
 | _=>exact x.elim
theorem FrW.grow {Z' X' O':Addr→Prop} (F:FrW w G env Z X O tg fr s) (hk:Keeps s s') (hP: ∀a o,s.heap.get? a=some o→(PP Z' X' O') a→(PP Z X O) a)
  (hl: ∀a,(PP Z' X' O') a→∃o,s'.heap.get? a=some o) (dO: ∀a,O' a→¬Z' a∧¬X' a) (dX: ∀a,X' a→¬Z' a) (hO: ∀a,O a→O' a) (hZ: ∀a,Z a→Z' a):FrW w G env Z' X' O' tg fr s' where
 glob:=fun a o e=>⟨Keeps.get hk (F.glob a o e).1,fun x=>(F.glob a o e).2 (hP a o (F.glob a o e).1 x)⟩
 live:=hl
 dO:=dO
 dX:=dX
 kind:=F.kind
 loc:=hO _ F.loc
 cells:=fun n hn=>by
  obtain ⟨c,v,e,o,ho,hd⟩:=F.cells n hn
  exact ⟨c,v,e,o,Keeps.get hk ho,hd⟩
 cset:=fun n c e=>(F.cset n c e).imp (hO _) (hZ _)
 ccell:=fun n c e=>let ⟨v,o,ho,hd⟩:=F.ccell n c e; ⟨v,o,Keeps.get hk ho,hd⟩
 cinj:=F.cinj
 cw:=fun x c h1 h2 h3=>hO _ (F.cw x c h1 h2 h3)
 names:=by
  obtain ⟨h',tk,rfl,k⟩:=hk
  obtain ⟨m,hn,hv,hp⟩:=F.names
  refine ⟨m,hn.keeps k,fun x sl e hx=> ?_,fun ht x y dx dy v u hxy e1 e2 h1 h2=> ?_⟩
  ·obtain ⟨v,h1,h2⟩:=hv x sl e hx
   refine ⟨v,h1.keep k, ?_⟩
   induction sl with
   | val d=>exact RdW.step (fun a o V=>k a o) hP (show RdW (PP Z X O) s.heap v d from h2)
   | own d=>
    obtain ⟨q,a,ea,h3,h4,h5⟩:=h2
    exact ⟨q.step (fun b o eb=>k b o) (fun a o V=>k a o) hP,a,ea,h3.imp (hO _) (hZ _),fun e=>hO _ (h4 e),h5⟩
  ·obtain ⟨v',h1',_⟩:=hv x _ e1 h1.kind
   obtain ⟨u',h2',_⟩:=hv y _ e2 h2.kind
   rw [h1.inj (h1'.keep k),h2.inj (h2'.keep k)]
   exact hp ht x y dx dy v' u' hxy e1 e2 h1' h2'
theorem FrW.keeps (F:FrW w G env Z X O tg fr s) (hk:Keeps s s'):FrW w G env Z X O tg fr s':=
 F.grow hk (fun V V V e=>e) (fun a h=>let ⟨o,e⟩:=F.live a h; ⟨o,Keeps.get hk e⟩) F.dO F.dX (fun V e=>e) fun V e=>e
theorem FrW.next {X':Addr→Prop} (F:FrW w G env Z X O tg fr s) (hk:zAC X s s') (hX: ∀a,X' a→X a) (hl: ∀a,X' a→∃o,s'.heap.get? a=some o):FrW w G env Z X' O tg fr s' where
 glob:=fun a o e=>⟨hk.get (fun x=>(F.glob a o e).2 (.inr (.inl x))) (F.glob a o e).1,fun x=>(F.glob a o e).2 (x.imp id (·.imp (hX a) id))⟩
 live:=fun a h=>by
  rcases h with h | h | h
  ·obtain ⟨o,e⟩:=F.live a (.inl h); exact ⟨o,hk.get (fun x=>F.dX a x h) e⟩
  ·exact hl a h
  ·obtain ⟨o,e⟩:=F.live a (.inr (.inr h)); exact ⟨o,hk.get (F.dO a h).2 e⟩
 dO:=fun a h=>⟨(F.dO a h).1,fun x=>(F.dO a h).2 (hX a x)⟩
 dX:=fun a h=>F.dX a (hX a h)
 kind:=F.kind
 loc:=F.loc
 cells:=fun n hn=>by
  obtain ⟨c,v,e,o,ho,hd⟩:=F.cells n hn
  exact ⟨c,v,e,o,hk.get (fun x=>(F.cset n c e).elim (fun y=>(F.dO c y).2 x) fun y=>F.dX c x y) ho,hd⟩
 cset:=F.cset
 ccell:=fun n c e=>let ⟨v,o,ho,hd⟩:=F.ccell n c e; ⟨v,o,hk.get (fun x=>(F.cset n c e).elim (fun y=>(F.dO c y).2 x) fun y=>F.dX c x y) ho,hd⟩
 cinj:=F.cinj
 cw:=F.cw
 names:=by
  obtain ⟨m,hn,hv,hp⟩:=F.names
  have hcell: ∀n c,env.cells.lookup n=some c→¬X c:=fun n c e x=>(F.cset n c e).elim (fun y=>(F.dO c y).2 x) fun y=>F.dX c x y
  have hh: ∀{x v},Holds env s.heap m x v→Holds env s'.heap m x v:=fun {x v} h=>by
   rcases h with h | ⟨h1,c,e,o,ho,hd⟩
   ·exact .inl h
   ·exact .inr ⟨h1,c,e,o,hk.get (hcell _ c e) ho,hd⟩
  refine ⟨m, ?_,fun x sl e hx=> ?_,fun ht x y dx dy v u hxy e1 e2 h1 h2=> ?_⟩
  ·obtain ⟨o,es,ep,ho,r⟩:=hn; exact ⟨o,es,ep,hk.get (F.dO _ F.loc).2 ho,r⟩
  ·obtain ⟨v,h1,h2⟩:=hv x sl e hx
   refine ⟨v,hh h1, ?_⟩
   have st: ∀a o,¬(Z a∨X a∨O a)→s.heap.get? a=some o→s'.heap.get? a=some o:=fun a o na e=>hk.get (fun x=>na (.inr (.inl x))) e
   induction sl with
   | val d=>exact RdW.step st (fun a V V x=>x.imp id (·.imp (hX a) id)) (show RdW (PP Z X O) s.heap v d from h2)
   | own d=>
    obtain ⟨q,a,ea,h3,h4⟩:=h2
    refine ⟨q.step (fun b o eb=> ?_) st fun a V V x=>x.imp id (·.imp (hX a) id),a,ea,h3,h4⟩
    rw [ea] at eb; cases eb
    exact hk.get fun x=>h3.elim (fun y=>(F.dO _ y).2 x) fun y=>F.dX _ x y
  ·obtain ⟨v',h1',_⟩:=hv x _ e1 h1.kind
   obtain ⟨u',h2',_⟩:=hv y _ e2 h2.kind
   rw [h1.inj (hh h1'),h2.inj (hh h2')]
   exact hp ht x y dx dy v' u' hxy e1 e2 h1' h2'
theorem FrW.congr {fr':Frm} (F:FrW w G env Z X O tg fr s) (h: ∀x sl,zAE x fr'=some sl→zAE x fr=some sl):FrW w G env Z X O tg fr' s where
 glob:=F.glob
 live:=F.live
 dO:=F.dO
 dX:=F.dX
 kind:=F.kind
 loc:=F.loc
 cells:=F.cells
 cset:=F.cset
 ccell:=F.ccell
 cinj:=F.cinj
 cw:=F.cw
 names:=by
  obtain ⟨m,hn,hv,hp⟩:=F.names
  exact ⟨m,hn,fun x sl e hx=>hv x sl (h x sl e) hx,fun ht x y dx dy v u hxy e1 e2=>hp ht x y dx dy v u hxy (h x _ e1) (h y _ e2)⟩
end
theorem zAb {τ:Type} (x:Nat) (sl:Slot) (l:Frm) (k:Frm→τ):zDL x sl l k=k (zBV x sl l):=by
 induction l generalizing k with
 | nil=>rfl
 | cons p r ih=>
  show zAA (Nat.beq p.1 x) (k ((x,sl) :: r)) (zDL x sl r fun r=>k (p :: r))=k (zAA (Nat.beq p.1 x) ((x,sl) :: r) (p :: zBV x sl r))
  cases Nat.beq p.1 x with
  | true=>rfl
  | false=>exact ih fun r=>k (p :: r)
theorem zAT (x y:Nat) (sl:Slot) (l:Frm):zAE y (zBV x sl l)=if y=x then some sl else zAE y l:=by
 induction l with
 | nil=>
  show zAA (Nat.beq x y) (some sl) none=_
  rw [zEx]
  by_cases h:y=x
  ·rw [if_pos h,h]; simp [zAA]
  ·rw [if_neg h,decide_eq_false fun e=>h e.symm]; rfl
 | cons p r ih=>
  show zAE y (zAA (Nat.beq p.1 x) ((x,sl) :: r) (p :: zBV x sl r))=_
  have fc: ∀(q:Nat×Slot) (l:Frm),zAE y (q :: l)=zAA (Nat.beq q.1 y) (some q.2) (zAE y l):=fun V V=>rfl
  rw [zEx]
  by_cases hp:p.1=x
  ·rw [decide_eq_true hp,zAJ,fc,fc,zEx,zEx,hp]
   by_cases h:y=x
   ·rw [if_pos h,decide_eq_true h.symm,zAJ]
   ·rw [if_neg h,decide_eq_false (fun e=>h e.symm),zAF,zAF]
  ·rw [decide_eq_false hp,zAF,fc,fc,ih,zEx]
   by_cases h:y=x
   ·rw [if_pos h,if_pos h,h,decide_eq_false hp,zAF]
   ·rw [if_neg h,if_neg h]
section
variable {w:World} {G:Heap} {env:Env} {Z X O:Addr→Prop} {tg:Option (List Nat)} {fr:Frm} {s s':Shared}
theorem zHE.at {P:Addr→Prop} {h:Heap} {a:Addr} {d:D} (x:zHE w P h (.ref a) d): ∃o,h.get? a=some o∧((∃vs n,o.data= .seq vs n)∨∃es n,o.data= .dict es n):=by
 induction d using PyData.casesOn with
 | list xs=>obtain ⟨b,vs,n,e,g,_⟩:=x; cases e; exact ⟨_,g, .inl ⟨_,_,rfl⟩⟩
 | dict kvs=>obtain ⟨b,e,r⟩:=x; cases e; obtain ⟨o,es,ep,ho,_,hd,_⟩:=r.at; exact ⟨o,ho, .inr ⟨_,_,hd⟩⟩
 | _=>exact x.elim
theorem zDT {h:Heap} {c L:Addr} {v:Option Value} {m:Str→Option Value} (x:h.IsCell c v) (y:h.Ns L m):c≠L:=by
 rintro rfl
 obtain ⟨o,ho,hd⟩:=x; obtain ⟨o',es,ep,ho',hd',_⟩:=y
 rw [ho] at ho'; cases ho'
 rw [hd] at hd'; cases hd'
theorem FrW.store {M:Model} {A:Around} {E:Value→Shared→Prop} {Q:Unit→Shared→Prop} {x:Nat} {v:Value} {sl:Slot} (F:FrW w G env Z X O tg fr s) (hx:kN env.scope x=some .local∨kN env.scope x=some .cell) (hT:zOx tg x)
  (r:zJJ w Z X O env.locals tg.isNone s.heap v sl) (hd: ∀d,sl= .own d→tg=none→∀y dy u m,y≠x→zAE y fr=some (.own dy)→s.heap.Ns env.locals m→Holds env s.heap m y u→v≠u)
  (hQ: ∀s',zAC O s s'→FrW w G env Z X O tg (zBV x sl fr) s'→Q () s'):wpAny M A (storeName env (nm x) v) Q E s:=by
 obtain ⟨m,hn,hv,hp⟩:=F.names
 have fin: ∀(t:Addr) (s':Shared) (m':Str→Option Value),O t→zAC (· =t) s s'→s'.heap.Ns env.locals m'→(∀n,env.kindOf n=some .cell→∃c v,env.cells.lookup n=some c∧s'.heap.IsCell c v)→(∀n c,env.cells.lookup n=some c→∃v,s'.heap.IsCell c v)→
   (∀y u,y≠x→Holds env s.heap m y u→Holds env s'.heap m' y u)→Holds env s'.heap m' x v→(∀b o,s.heap.get? b=some o→((∃vs n,o.data= .seq vs n)∨∃es n,o.data= .dict es n)→b≠env.locals→b≠t)→
   (∃o,s'.heap.get? t=some o)→Q () s':=fun t s' m' hOt kb hn' hcells hcc hh hxv hob htl=>by
  have st: ∀a o,¬PP Z X O a→s.heap.get? a=some o→s'.heap.get? a=some o:=fun a o na e=>kb.get (fun x=>na (.inr (.inr (x▸hOt)))) e
  have slt: ∀{u sl'},zJJ w Z X O env.locals tg.isNone s.heap u sl'→zJJ w Z X O env.locals tg.isNone s'.heap u sl':=fun {u sl'} q=>by
   induction sl' with
   | val d=>exact RdW.step st (fun V V V e=>e) (show RdW (PP Z X O) s.heap u d from q)
   | own d=>
    obtain ⟨q,a,ea,h3,h4,h5⟩:=q
    refine ⟨q.step (fun b o eb e=> ?_) st fun V V V e=>e,a,ea,h3,h4,h5⟩
    rw [ea] at eb; cases eb
    subst ea
    obtain ⟨o',ho',hk⟩:=q.at
    exact kb.get (hob _ o' ho' hk h5) e
  refine hQ s' (kb.mono fun a o V e=>e▸hOt) ⟨fun a o e=>⟨kb.get (fun x=>(F.glob a o e).2 (.inr (.inr (x▸hOt)))) (F.glob a o e).1,(F.glob a o e).2⟩,fun a h=> ?_,F.dO,F.dX,F.kind,F.loc,hcells,F.cset,hcc,F.cinj,F.cw,m',hn',fun y sl' e hy=> ?_,fun ht y z dy dz p u hyz e1 e2 h1 h2=> ?_⟩
  ·by_cases hat:a=t
   ·subst hat; exact htl
   ·obtain ⟨o,e⟩:=F.live a h; exact ⟨o,kb.get hat e⟩
  ·rw [zAT] at e
   by_cases hyx:y=x
   ·rw [if_pos hyx] at e; cases e; subst hyx; exact ⟨v,hxv,slt r⟩
   ·rw [if_neg hyx] at e
    obtain ⟨u,h1,h2⟩:=hv y sl' e hy
    exact ⟨u,hh y u hyx h1,slt h2⟩
  ·rw [zAT] at e1 e2
   by_cases hyx:y=x
   ·rw [if_pos hyx] at e1
    have hzx:z≠x:=fun e=>hyz (hyx.trans e.symm)
    rw [if_neg hzx] at e2
    cases e1
    subst hyx
    obtain ⟨u',g1,_⟩:=hv z _ e2 h2.kind
    rw [h1.inj hxv,h2.inj (hh z u' hzx g1)]
    exact hd dy rfl ht z dz u' m hzx e2 hn g1
   ·rw [if_neg hyx] at e1
    obtain ⟨p',g0,_⟩:=hv y _ e1 h1.kind
    by_cases hzx:z=x
    ·rw [if_pos hzx] at e2
     cases e2
     subst hzx
     rw [h2.inj hxv,h1.inj (hh y p' hyx g0)]
     exact fun e=>hd dz rfl ht y dy p' m hyx e1 hn g0 e.symm
    ·rw [if_neg hzx] at e2
     obtain ⟨u',g1,_⟩:=hv z _ e2 h2.kind
     rw [h1.inj (hh y p' hyx g0),h2.inj (hh z u' hzx g1)]
     exact hp ht y z dy dz p' u' hyz e1 e2 g0 g1
 have hq:(env.scope.kind== .class||(env.scope.kind== .module&&env.locals != env.globals))=false:=by rw [F.kind]; rfl
 rcases hx with hx | hx
 ·refine wpAny_storeName_local hx hn (fun h' hn' hs'=> ?_) hq
  have kb:zAC (· =env.locals) s {s with heap:=h',toks:=s.toks + 1}:=zAC.same hs' rfl
  have cne: ∀n c v,env.cells.lookup n=some c→s.heap.IsCell c v→c≠env.locals:=fun n c v V q=>zDT q hn
  refine fin env.locals _ _ F.loc kb hn' (fun n hk=> ?_) (fun n c e=>let ⟨v,q⟩:=F.ccell n c e; ⟨v,q.sameBut hs' (cne n c v e q)⟩) (fun y u hyx h=> ?_) (.inl ⟨hx,by simp⟩) (fun b o V V hb=>hb) ?_
  ·obtain ⟨c,v,e,q⟩:=F.cells n hk
   exact ⟨c,v,e,q.sameBut hs' (cne n c v e q)⟩
  ·rcases h with ⟨k,e⟩ | ⟨k,c,e,q⟩
   ·refine .inl ⟨k, ?_⟩
    show (if nm y=nm x then some v else m (nm y))=some u
    rw [if_neg fun q=>hyx (zEw q)]; exact e
   ·exact .inr ⟨k,c,e,q.sameBut hs' (cne _ c _ e q)⟩
  ·obtain ⟨o,_,_,ho,_⟩:=hn'; exact ⟨o,ho⟩
 ·obtain ⟨c,v₀,hc,hcell⟩:=F.cells (nm x) hx
  refine wpAny_storeName_cell F.kind hx hc hcell fun h' hc' hs'=> ?_
  have hcl:c≠env.locals:=zDT hcell hn
  have kb:zAC (· =c) s {s with heap:=h'}:=zAC.same hs' rfl
  refine fin c _ m (F.cw x c hT hx hc) kb (hn.sameBut hs' (Ne.symm hcl)) (fun n hk=> ?_) (fun n c' e=> ?_) (fun y u hyx h=> ?_) (.inr ⟨hx,c,hc,hc'⟩) (fun b o ho hd V=> ?_) ?_
  ·obtain ⟨c',v',e,q⟩:=F.cells n hk
   by_cases hcc:c'=c
   ·subst hcc; exact ⟨c',_,e,hc'⟩
   ·exact ⟨c',v',e,q.sameBut hs' hcc⟩
  ·obtain ⟨v',q⟩:=F.ccell n c' e
   by_cases hcc:c'=c
   ·subst hcc; exact ⟨_,hc'⟩
   ·exact ⟨v',q.sameBut hs' hcc⟩
  ·rcases h with h | ⟨k,c',e,q⟩
   ·exact .inl h
   ·exact .inr ⟨k,c',e,q.sameBut hs' fun q=>hyx (zEw (F.cinj _ _ c' e (q▸hc)))⟩
  ·rintro rfl
   obtain ⟨o',ho',hd'⟩:=hcell
   rw [ho] at ho'; cases ho'
   rcases hd with ⟨_,_,hd⟩ | ⟨_,_,hd⟩ <;> rw [hd'] at hd <;> cases hd
  ·obtain ⟨o,ho,_⟩:=hc'; exact ⟨o,ho⟩
end
structure FC (w:World) (G:Heap) (ga:Addr×Addr) (A:Around) (env:Env) (Z X O:Addr→Prop) (tg:Option (List Nat)) (fr:Frm) (s:Shared) (n:Nat):Prop where
 fw:FrW w G env Z X O tg fr s
 hand:zAG A s.heap
 hp: ∀b∈zAQ A,¬(PP Z X O) b
 gl:env.globals=ga.1∧env.builtins=ga.2
 dep:A.depth + n≤900
 un:A.units + 16 * n + 200≤9800
section
variable {w:World} {G:Heap} {ga:Addr×Addr} {A:Around} {env:Env} {Z X O:Addr→Prop} {tg:Option (List Nat)} {fr fr':Frm} {s s':Shared} {n:Nat}
theorem FC.cx (x:FC w G ga A env Z X O tg fr s n):Cx w G ga A env (PP Z X O) fr s n:=⟨x.fw.ex,x.hand,x.hp,x.gl,x.dep,x.un⟩
theorem FC.keeps (x:FC w G ga A env Z X O tg fr s n) (hk:Keeps s s'):FC w G ga A env Z X O tg fr s' n:=
 ⟨x.fw.keeps hk,x.hand.keep fun V V e=>Keeps.get hk e,x.hp,x.gl,x.dep,x.un⟩
theorem FC.to (x:FC w G ga A env Z X O tg fr s n) (hk:zAC O s s') (f:FrW w G env Z X O tg fr' s'):FC w G ga A env Z X O tg fr' s' n:=
 ⟨f,x.hand.at fun b hb o e=>hk.get (fun y=>x.hp b hb (.inr (.inr y))) e,x.hp,x.gl,x.dep,x.un⟩
theorem FC.next {X':Addr→Prop} (x:FC w G ga A env Z X O tg fr s n) (hk:zAC X s s') (hX: ∀a,X' a→X a) (hl: ∀a,X' a→∃o,s'.heap.get? a=some o):FC w G ga A env Z X' O tg fr s' n:=
 ⟨x.fw.next hk hX hl,x.hand.at fun b hb o e=>hk.get (fun y=>x.hp b hb (.inr (.inl y))) e,fun b hb y=>x.hp b hb (y.imp id (·.imp (hX b) id)),x.gl,x.dep,x.un⟩
end
section
variable {prog:Program} {w:World} {A:Around} {E:Value→Shared→Prop} {s:Shared}
theorem zCM {t:Addr} {items:Array Value} {targets:List (Bool×(Value→Sem Unit))} {Q:Unit→Shared→Prop} (hh:zAG A s.heap) (ht:s.heap.IsTuple t items)
  (hn:targets.length=items.size) (hstar:targets.findIdx? (·.1)=none)
  (h: ∀h',Heap.ExtBut s.heap.objs.size s.heap h'→wpAny (model prog w) A (assignInOrder (targets.map (·.2)) items.toList) Q E {s with heap:=h'}):
  wpAny (model prog w) A (unpack (.ref t) targets) Q E s:=by
 have hlt:t≠s.heap.objs.size:=by obtain ⟨o,ho,_⟩:=ht; exact Nat.ne_of_lt (Heap.lt_size ho)
 unfold unpack
 rw [hn,hstar]
 refine wpAny_bind (wpAny_holding ?_)
 unfold unpackItems
 refine wpAny_bind ?_
 unfold notIterableAtAll
 refine wpAny_bind (wpAny_specialOf ht.typeIs F.slot_tuple_iter.lookup ?_)
 refine wpAny_pure ?_
 simp only [Bool.false_eq_true,if_false]
 refine wpAny_bind (wpAny_holding (wpAny_pyIter_tuple ht ?_))
 refine wpAny_bind (wpAny_holding (wpAny_draw_tuple hlt items.size 0 _ _ ⟨_,Heap.get?_push_size _ rfl,rfl,rfl⟩ (ht.push _) (by lia) fun h₁ hit₁ hs₁=> ?_))
 have hall:List.take items.size (List.drop 0 items.toList)=items.toList:=by
  rw [List.drop_zero]; exact List.take_of_length_le (by simp)
 rw [hall]
 rw [if_neg (by simp)]
 have ht₁:h₁.IsTuple t items:=(ht.push _).extBut hs₁.extBut hlt
 have hh₁:zAG A h₁:=by
  refine hh.at fun b hb o e=>hs₁.extBut b o ?_ (Heap.get?_push_of_some _ e)
  exact Nat.ne_of_lt (hh.live b hb)
 refine wpAny_bind (wpAny_holding (zAo hh₁ hit₁ ht₁ (by simp) fun h₂ he₂=> ?_))
 simp only [Option.isSome_none,Bool.false_eq_true,if_false]
 refine wpAny_pure (h h₂ fun b o hb e=>he₂ b o hb (hs₁.extBut b o hb (Heap.get?_push_of_some _ e)))
end
section
variable {prog:Program} {w:World} {G:Heap} {ga:Addr×Addr} {gcx:Nat→Option D} {call:Nat→List D→Option D} {rc:Nat}
variable (prog w G ga gcx call) in
def SN (e:E):Prop:=∀(A:Around) (env:Env) (Z X O:Addr→Prop) (tg:Option (List Nat)) (fr fr':Frm) (s:Shared) (n:Nat) (Q:Unit→Shared→Prop) (E:Value→Shared→Prop) (v:Value) (d:D),FC w G ga A env Z X O tg fr s n→(Ck e).k env.scope=true→
 (∀x∈zAu e,zOx tg x)→(Ev gcx call e).n d fr=some fr'→RdW (PP Z X O) s.heap v d→(∀s',zAC O s s'→FC w G ga A env Z X O tg fr' s' n→Q () s')→wpAny (model prog w) A (assign (up nm e) env v) Q E s
variable (prog w G ga gcx call) in
def SNl (e:E):Prop:=∀(A:Around) (env:Env) (Z X O:Addr→Prop) (tg:Option (List Nat)) (fr fr':Frm) (s:Shared) (n:Nat) (Q:Unit→Shared→Prop) (E:Value→Shared→Prop) (vs:List Value) (ds:List D),FC w G ga A env Z X O tg fr s n→(Ck e).k env.scope=true→
 (∀x∈zAu e,zOx tg x)→(Ev gcx call e).nl ds fr=some fr'→zAK (PP Z X O) s.heap vs ds→
 (assignEach (ups nm e) env).length=vs.length∧(assignEach (ups nm e) env).findIdx? (·.1)=none∧
 ((∀s',zAC O s s'→FC w G ga A env Z X O tg fr' s' n→Q () s')→wpAny (model prog w) A (assignInOrder ((assignEach (ups nm e) env).map (·.2)) vs) Q E s)
theorem SN.vac {e:E} (hn:(Ev gcx call e).n=noN):SN prog w G ga gcx call e:=by
 intro A env Z X O tg fr fr' s n Q E v d _ _ _ h
 rw [hn] at h; cases h
theorem SNl.vac {e:E} (hn:(Ev gcx call e).nl=noNl):SNl prog w G ga gcx call e:=by
 intro A env Z X O tg fr fr' s n Q E v d _ _ _ h
 rw [hn] at h; cases h
theorem zPa {x:Nat} {p:Pos}:SN prog w G ga gcx call (.var x p):=by
 intro A env Z X O tg fr fr' s n Q E v d F hk hT h r hQ
 have h:zDL x (.val d) fr some=some fr':=h
 rw [zAb] at h
 cases h
 refine wpAny_assign_Name (F.fw.store (sl:= .val d) (zAx hk) (hT x (List.mem_singleton_self x)) r (fun V e=>by cases e) fun s' k f=>hQ s' k (F.to k f))
theorem n_ok {t:E} {d:D} {fr fr':Frm} (h:(Ev gcx call t).n d fr=some fr'):(∃x p,t= .var x p)∨∃l k p,t= .tup l k p:=by
 induction t using E.casesOn with
 | var x p=>exact .inl ⟨x,p,rfl⟩
 | tup l k p=>exact .inr ⟨l,k,p,rfl⟩
 | _=>cases h
theorem zPw {e:E} {ds:List D} {fr fr':Frm} (h:(Ev gcx call e).nl ds fr=some fr'):(e= .nil∧ds=[]∧fr=fr')∨∃x y d dr fr1,e= .cons x y∧ds=d :: dr∧(Ev gcx call x).n d fr=some fr1∧(Ev gcx call y).nl dr fr1=some fr':=by
 induction e using E.casesOn with
 | nil=>induction ds using List.casesOn with
  | nil=>exact .inl ⟨rfl,rfl,Option.some.inj h⟩
  | cons _ _=>cases h
 | cons x y=>induction ds using List.casesOn with
  | nil=>cases h
  | cons d dr=>
   obtain ⟨fr1,h1,h2⟩:=zAB (show bnd ((Ev gcx call x).n d fr) (fun fr=>(Ev gcx call y).nl dr fr)=some fr' from h)
   exact .inr ⟨x,y,d,dr,fr1,rfl,rfl,h1,h2⟩
 | _=>cases h
theorem zCJ {env:Env} {r:List Expr} {h:E} {d:D} {fr fr':Frm} (e:(Ev gcx call h).n d fr=some fr'):assignEach (up nm h :: r) env=(false,assign (up nm h) env) :: assignEach r env:=by
 rcases n_ok e with ⟨_,_,rfl⟩ | ⟨_,_,_,rfl⟩ <;> rfl
theorem zLn {env:Env} {t:E}: ∀{ds:List D} {fr fr':Frm} {vs:List Value},(Ev gcx call t).nl ds fr=some fr'→vs.length=ds.length→(assignEach (ups nm t) env).length=vs.length∧(assignEach (ups nm t) env).findIdx? (·.1)=none:=by
 induction t using zFS with
 | H r ih=>
  intro ds fr fr' vs h e
  rcases zPw h with ⟨rfl,rfl,_⟩ | ⟨x,y,d,dr,fr1,rfl,rfl,h1,h2⟩
  ·exact ⟨e.symm,rfl⟩
  ·induction vs using List.casesOn with
   | nil=>cases e
   | cons v vs=>
    obtain ⟨e1,e2⟩:=ih _ _ rfl h2 (Nat.succ.inj e)
    rw [zCJ h1,List.length_cons,e1,List.findIdx?_cons,e2]
    exact ⟨rfl,rfl⟩
theorem zOA:SNl prog w G ga gcx call .nil:=by
 intro A env Z X O tg fr fr' s n Q E vs ds F hk hT h r
 induction ds using List.casesOn with
 | nil=>
  cases r
  cases (show some fr=some fr' from h)
  exact ⟨rfl,rfl,fun hQ=>wpAny_pure (hQ s (zAC.refl s) F)⟩
 | cons _ _=>cases h
theorem RdW.kb {P O:Addr→Prop} {s s':Shared} {v:Value} {d:D} (r:RdW P s.heap v d) (k:zAC O s s') (h: ∀a,O a→P a):RdW P s'.heap v d:=r.keepBut k h
theorem zLd {h t:E} (sh:SN prog w G ga gcx call h) (st:SNl prog w G ga gcx call t):SNl prog w G ga gcx call (.cons h t):=by
 intro A env Z X O tg fr fr' s n Q E vs ds F hk hT hh r
 obtain ⟨k1,k2⟩:=zBH hk
 induction ds using List.casesOn with
 | nil=>cases (show none=some fr' from hh)
 | cons d ds=>
  cases r with
  | @cons v vs _ _ ra rb=>
   obtain ⟨fr1,h1,h2⟩:=zAB (show bnd ((Ev gcx call h).n d fr) (fun fr=>(Ev gcx call t).nl ds fr)=some fr' from hh)
   have hT1: ∀x∈zAu h,zOx tg x:=fun x hx=>hT x (by show x∈app (zAu h) (zAu t); rw [zAa]; exact List.mem_append_left _ hx)
   have hT2: ∀x∈zAu t,zOx tg x:=fun x hx=>hT x (by show x∈app (zAu h) (zAu t); rw [zAa]; exact List.mem_append_right _ hx)
   obtain ⟨e1,e2⟩:=zLn (env:=env) h2 rb.length
   rw [zCJ h1,List.length_cons,e1,List.findIdx?_cons,e2]
   refine ⟨rfl,rfl,fun hQ=> ?_⟩
   rw [List.map_cons]
   unfold assignInOrder
   refine wpAny_bind (wpAny_holding (sh A env Z X O tg fr fr1 s n _ E v d F k1 hT1 h1 ra fun s1 k f=> ?_))
   exact (st A env Z X O tg fr1 fr' s1 n Q E vs ds f k2 hT2 h2 (rb.keepBut k fun a x=> .inr (.inr x))).2.2 fun s2 k' f'=>hQ s2 (k.trans k' fun a V V e=>e) f'
theorem zPb {l:E} {k:Nat} {p:Pos} (sl:SNl prog w G ga gcx call l):SN prog w G ga gcx call (.tup l k p):=by
 intro A env Z X O tg fr fr' s n Q E v d F hk hT h r hQ
 have h:zFV d (fun ds=>(Ev gcx call l).nl ds fr) none=some fr':=h
 induction d using PyData.casesOn with
 | tuple ds=>
  obtain ⟨t,vs,m,rfl,g,_,q⟩:=r.tupInv
  have q':zAK (PP Z X O) s.heap vs.toList ds:=q
  rw [arm_assign_Tuple]
  have sh:=sl A env Z X O tg fr fr' s n Q E vs.toList ds F hk hT h q'
  refine wpAny_bind (wpAny_standAt (zCM F.hand (zAt g) (by simpa using sh.1) sh.2.1 fun h' he=> ?_))
  have kp:Keeps s {s with heap:=h'}:=⟨h',s.toks,rfl,fun a o e=>he a o (zBG (P:=fun V=>False) e) e⟩
  exact (sl A env Z X O tg fr fr' {s with heap:=h'} n Q E vs.toList ds (F.keeps kp) hk hT h (zAK.keeps q' kp)).2.2 fun s' k f=>hQ s' ((zAC.of kp).trans k fun V V V e=>e) f
 | _=>cases h
end
noncomputable def zCt (e:Expr) (emit:Sem Unit) (g:Comprehension) (nx:Option Comprehension) (depth:Nat) (it acc:Value) (env:Env):Sem Fin:=do
 standAt g.iter.pos
 match←pyNext it with
 | none=>pure (.done .next)
 | some v=>
  letOwnedTupleGo g.target it v
  assign g.target env v
  let mut ok:=true
  for c in g.ifs do
   if ok then ok←isTrue c env (eval c env)
  if ok then
   match nx with
   | some g'=>
    let x←eval g'.iter env
    standAt g'.iter.pos
    let x←foldedSetIterable g'.iter env x
    let _←runOwn (.compStart e (depth + 1) (←holding [x] (pyIter x)) acc env) env
   | none=>emit
  again (.compLoop e depth it acc env)
noncomputable def zMp (elt:Expr) (acc:Value) (env:Env):Sem Unit:=do let _←call (.builtin "list.append") [acc, ←eval elt env]
noncomputable def zMq (k v:Expr) (acc:Value) (env:Env):Sem Unit:=do
 let kv←eval k env
 let vv←holding [kv] (eval v env)
 match acc with
 | .ref d=>do
  standAt {k.pos with endLine:=v.pos.endLine,endCol:=v.pos.endCol}
  holding [kv,vv] (dictSet d kv vv)
 | _=>unsupported "internal:dictcomp"
theorem zJE {elt:Expr} {gens:List Comprehension} {sc:Scope} {pos:Pos} {k:Nat} {it acc:Value} {env:Env} {t i:Expr} {fs:List Expr} (h:gens[k]? =some ⟨t,i,fs,0⟩) (hn: ∀g',gens[k + 1]? =some g'→g'.is_async=0):
  compTurn (.ListComp elt gens sc pos) k it acc env=zCt (.ListComp elt gens sc pos) (zMp elt acc env) ⟨t,i,fs,0⟩ gens[k + 1]? k it acc env:=by
 unfold compTurn
 dsimp only
 rw [h]
 dsimp only
 cases hg:gens[k + 1]? with
 | none=>simp only []; rfl
 | some g'=>
  obtain ⟨t',i',fs',a⟩:=g'
  obtain rfl:a=0:=hn _ hg
  rfl
theorem zJF {ke ve:Expr} {gens:List Comprehension} {sc:Scope} {pos:Pos} {k:Nat} {it acc:Value} {env:Env} {t i:Expr} {fs:List Expr} (h:gens[k]? =some ⟨t,i,fs,0⟩) (hn: ∀g',gens[k + 1]? =some g'→g'.is_async=0):
  compTurn (.DictComp ke ve gens sc pos) k it acc env=zCt (.DictComp ke ve gens sc pos) (zMq ke ve acc env) ⟨t,i,fs,0⟩ gens[k + 1]? k it acc env:=by
 unfold compTurn
 dsimp only
 rw [h]
 dsimp only
 cases hg:gens[k + 1]? with
 | none=>simp only []; rfl
 | some g'=>
  obtain ⟨t',i',fs',a⟩:=g'
  obtain rfl:a=0:=hn _ hg
  rfl
section
variable {prog:Program} {w:World} {A:Around} {E:Value→Shared→Prop} {R:Result→Shared→Prop} {s:Shared}
theorem zDE {e:Expr} {k:Nat} {it acc:Value} {env:Env} {t i:Expr} {fs:List Expr} (h:(clausesOf e)[k]? =some ⟨t,i,fs,0⟩) (hf:(Code.compStart e k it acc env).isFrame=false) (hq:(Code.compLoop e k it acc env).quiet=true)
  (h0:codeAny (model prog w) A (.compLoop e k it acc env) R s)
  (h1:wpAny (model prog w) A (pyIter it) (fun it' s'=>codeAny (model prog w) A (.compLoop e k it' acc env) R s') (fun V V=>False) s) (hu:A.under (.compStart e k it acc env)=A):
  codeAny (model prog w) A (.compStart e k it acc env) R s:=by
 refine codeAny_of_tree ?_
 rw [hu]
 show wpAny _ _ (if (Code.compStart e k it acc env).isFrame=true then (compStart e k it acc env).onRaise («leaving» env) else (compStart e k it acc env).onRaise (fun x=>do noteFrame x env; standAt theWindowsPlace)) _ _ s
 rw [if_neg (by rw [hf]; exact Bool.false_ne_true)]
 refine wpAny_notedAt ?_
 unfold compStart
 rw [h]
 show wpAny _ _ (ask >>= _) _ _ s
 refine wpAny_bind (wpAny_askSetting (wpAny_ite ?_))
 split
 ·first
   | exact wpAny_bind (wpAny_pure (wpAny_pure (And.intro hq h0)))
   | exact wpAny_pure (And.intro hq h0)
 ·first
   | exact wpAny_bind (wpAny_rule (wpAny_bind (wpAny_standAt (wpAny_bind (wpAny_mono h1 (fun it' s' h'=>wpAny_pure (And.intro hq h')) fun V V x=>x.elim)))))
   | (refine wpAny_bind (wpAny_rule ?_); refine wpAny_bind (wpAny_standAt ?_); exact (wpAny_bind (wpAny_mono h1 (fun it' s' h'=>wpAny_pure (And.intro hq h')) fun V V x=>x.elim)))
end
section
variable {prog:Program} {w:World} {G:Heap} {ga:Addr×Addr} {gcx:Nat→Option D} {call:Nat→List D→Option D} {rc:Nat}
variable (prog w G ga gcx call rc) in
def ST (e:E):Prop:=∀(A:Around) (env:Env) (P:Addr→Prop) (fr:Frm) (s:Shared) (Q:Bool→Shared→Prop) (E:Value→Shared→Prop) (c:Bool),Cx w G ga A env P fr s rc→(Ck e).k env.scope=true→
  (Ev gcx call e).a .And fr=some c→(∀s',Keeps s s'→Q c s')→
  wpAny (model prog w) A (forIn (ups nm e) true fun c r=>if r=true then do let ok←isTrue c env (eval c env); pure (ForInStep.yield ok) else pure (ForInStep.yield r)) Q E s
theorem ST.vac {e:E} (ha:(Ev gcx call e).a=noA):ST prog w G ga gcx call rc e:=by
 intro A env P fr s Q E c cx hk h hQ
 rw [ha] at h; cases h
theorem zPQ:ST prog w G ga gcx call rc .nil:=by
 intro A env P fr s Q E c cx hk h hQ
 cases (show some true=some c from h)
 show wpAny _ A (forIn [] true _) Q E s
 rw [List.forIn_nil]
 exact wpAny_pure (hQ s (Keeps.refl s))
theorem zEA {A:Around} {env:Env} {s:Shared} {Q:Bool→Shared→Prop} {E:Value→Shared→Prop} (h:Q false s): ∀l:List Expr,
  wpAny (model prog w) A (forIn l false fun c r=>if r=true then do let ok←isTrue c env (eval c env); pure (ForInStep.yield ok) else pure (ForInStep.yield r)) Q E s
 | []=>by rw [List.forIn_nil]; exact wpAny_pure h
 | c :: l=>by
  rw [List.forIn_cons]
  simp only [Bool.false_eq_true,if_false]
  exact wpAny_bind (wpAny_pure (zEA h l))
theorem zNq {h t:E} (sh:SE prog w G ga gcx call rc h) (st:ST prog w G ga gcx call rc t):ST prog w G ga gcx call rc (.cons h t):=by
 intro A env P fr s Q E c cx hk hh hQ
 obtain ⟨k1,k2⟩:=zBH hk
 obtain ⟨b,h1,hh⟩:=zAB (show bnd ((Ev gcx call h).t fr) (fun c=>andC .And c ((Ev gcx call t).a .And fr))=some c from hh)
 rw [List.forIn_cons]
 simp only [if_true]
 refine wpAny_bind (wpAny_bind (sh.t A env P fr s _ E b cx k1 h1 fun s₁ q1=>wpAny_pure ?_))
 induction b with
 | true=>exact st A env P fr s₁ Q E c (cx.keeps q1) k2 hh fun s₂ q2=>hQ s₂ (Keeps.trans q1 q2)
 | false=>
  cases (show some false=some c from hh)
  exact zEA (hQ s₁ q1) _
theorem zKJ: ∀(e:E),(∀d fr fr' x,(Ev gcx call e).n d fr=some fr'→x ∉ zAu e→zAE x fr'=zAE x fr)∧(∀ds fr fr' x,(Ev gcx call e).nl ds fr=some fr'→x ∉ zAu e→zAE x fr'=zAE x fr):=by
 intro e
 induction e with
 | var y p=>
  refine ⟨fun d fr fr' x h hx=> ?_,fun ds fr fr' x h=>by cases h⟩
  have h:zDL y (.val d) fr some=some fr':=h
  rw [zAb] at h; cases h
  rw [zAT,if_neg fun e=>hx (by subst e; exact List.mem_singleton_self _)]
 | tup l k p ih=>
  refine ⟨fun d fr fr' x h hx=> ?_,fun ds fr fr' x h=>by cases h⟩
  have h:zFV d (fun ds=>(Ev gcx call l).nl ds fr) none=some fr':=h
  induction d using PyData.casesOn with
  | tuple ds=>exact ih.2 ds fr fr' x h hx
  | _=>cases h
 | nil=>
  refine ⟨fun d fr fr' x h=>by (cases h),fun ds fr fr' x h hx=> ?_⟩
  induction ds using List.casesOn with
  | nil=>cases (show some fr=some fr' from h); rfl
  | cons _ _=>cases h
 | cons h t ih1 ih2=>
  refine ⟨fun d fr fr' x h=>by (cases h),fun ds fr fr' x hh hx=> ?_⟩
  have hx:x ∉ zAu h++zAu t:=by rw [←zAa]; exact hx
  induction ds using List.casesOn with
  | nil=>cases hh
  | cons d ds=>
   obtain ⟨fr1,h1,h2⟩:=zAB (show bnd ((Ev gcx call h).n d fr) (fun fr=>(Ev gcx call t).nl ds fr)=some fr' from hh)
   rw [ih2.2 ds fr1 fr' x h2 fun y=>hx (List.mem_append_right _ y),ih1.1 d fr fr1 x h1 fun y=>hx (List.mem_append_left _ y)]
 | _=>exact ⟨fun d fr fr' x h=>by (cases h),fun ds fr fr' x h=>by (cases h)⟩
variable (prog w G ga gcx call rc) in
def GOk1 (e:E):Prop:=match e with
 | .gen t i fs=>SN prog w G ga gcx call t∧ST prog w G ga gcx call rc fs∧SI prog w G ga gcx call rc i
 | _=>True
variable (prog w G ga gcx call rc) in
def zNj:E→Prop
 | .cons h t=>GOk1 prog w G ga gcx call rc h∧zNj t
 | _=>True
theorem Wk.frame0 {A:Around} {tg:Expr} {I:Addr} {wr rd:Addr→Prop} {ds:List D} {St:Nat→(Addr→Prop)→Heap→Prop} (W:Wk prog w A tg I wr rd ds St) {i:Nat} {P P':Addr→Prop} {h h':Heap} (st:St i P h)
  (hw: ∀a,wr a→P' a) (hP: ∀a o,h.get? a=some o→P' a→P a) (hk: ∀a o,h.get? a=some o→h'.get? a=some o):St i P' h':=
 W.frame i P P' h h' (fun V=>False) (fun V f=>f.elim) (fun V f=>f.elim) (fun V f=>f.elim) hw hP st fun a o V=>hk a o
theorem zJd {i:E} {fr:Frm} {ds:List D} (h:(Ev gcx call i).i fr=some ds) (env:Env) (x:Value):foldedSetIterable (up nm i) env x=pure x:=by
 induction i using E.casesOn with
 | raw e=>cases h
 | _=>rfl
end
section
variable {prog:Program} {w:World} {G:Heap} {ga:Addr×Addr} {gcx:Nat→Option D} {call:Nat→List D→Option D} {rc:Nat}
structure zPG (D':Addr) (Acc:List D→(Addr→Prop)→Heap→Prop):Prop where
 step: ∀ds (P P':Addr→Prop) (h h':Heap),Acc ds P h→(∀o,h.get? D'=some o→h'.get? D'=some o)→(∀a o,¬P a→h.get? a=some o→h'.get? a=some o)→(∀a o,h.get? a=some o→P' a→P a)→Acc ds P' h'
structure zNB (prog:Program) (w:World) (G:Heap) (ga:Addr×Addr) (A:Around) (env:Env) (Z O:Addr→Prop) (tgs:List Nat) (n:Nat) (e:Expr) (D':Addr) (emit:Sem Unit) (Acc:List D→(Addr→Prop)→Heap→Prop) (kk:Frm→Option (List D)):Prop where
 acc:zPG D' Acc
 turn: ∀k it (t i:Expr) (fs:List Expr),(clausesOf e)[k]? =some ⟨t,i,fs,0⟩→(∀g',(clausesOf e)[k + 1]? =some g'→g'.is_async=0)→compTurn e k it (.ref D') env=zCt e emit ⟨t,i,fs,0⟩ (clausesOf e)[k + 1]? k it (.ref D') env
 frS: ∀k it,(Code.compStart e k it (.ref D') env).isFrame=false∧A.under (.compStart e k it (.ref D') env)=A
 frL: ∀k it,(Code.compLoop e k it (.ref D') env).isFrame=false∧(Code.compLoop e k it (.ref D') env).quiet=true∧A.under (.compLoop e k it (.ref D') env)=A
 emitOk: ∀(X:Addr→Prop) (fr:Frm) (s:Shared) (ds x:List D) (Q:Unit→Shared→Prop) (E:Value→Shared→Prop),X D'→FC w G ga A env Z X O (some tgs) fr s n→Acc ds (PP Z X O) s.heap→kk fr=some x→(app ds x).length≤100000→
  (∀s',zAC (· =D') s s'→FC w G ga A env Z X O (some tgs) fr s' n→Acc (app ds x) (PP Z X O) s'.heap→Q () s')→wpAny (model prog w) A emit Q E s
theorem Wk.nextv {A:Around} {tg:Expr} {I:Addr} {wr rd:Addr→Prop} {ds:List D} {St:Nat→(Addr→Prop)→Heap→Prop} {E:Value→Shared→Prop} {Q:Option Value→Shared→Prop} {K:Value→Shared→Prop} {i:Nat} {d:D} {P:Addr→Prop} {s:Shared}
  (W:Wk prog w A tg I wr rd ds St) (hd:ds[i]? =some d) (al: ∀a,P a→∃o,s.heap.get? a=some o) (st:St i P s.heap) (hK: ∀v s₁,wpAny (model prog w) A (letOwnedTupleGo tg (.ref I) v) (fun V s₂=>K v s₂) E s₁→Q (some v) s₁)
  (h: ∀v s₂,zAC wr s s₂→RdW P s₂.heap v d→St (i + 1) P s₂.heap→K v s₂):wpAny (model prog w) A (pyNext (.ref I)) Q E s:=
 wpAny_mono (W.item i d P s K E hd al st h) (fun r s₁ h₁=>by
  induction r with
  | none=>exact h₁.elim
  | some v=>exact hK v s₁ h₁) fun V V q=>q
theorem zKq {d:D} {l:List D} {f:D→Option (List D)} {out:List D} (h:zMu (d :: l) f=some out): ∃x y,f d=some x∧zMu l f=some y∧out=app x y:=by
 obtain ⟨x,h1,h⟩:=zAB (show bnd (f d) (fun x=>bnd (zMu l f) fun y=>some (app x y))=some out from h)
 obtain ⟨y,h2,h⟩:=zAB h
 cases h
 exact ⟨x,y,h1,h2,rfl⟩
theorem zGw {α:Type} (a b c:List α):app (app a b) c=app a (app b c):=by rw [zAa,zAa,zAa,zAa,List.append_assoc]
theorem zKx {α:Type} (a:List α):app a []=a:=by rw [zAa]; simp
theorem zJT {t i fs r:E} {pre:List Comprehension}:(pre++upg nm (.cons (.gen t i fs) r))[pre.length]? =some ⟨up nm t,up nm i,ups nm fs,0⟩:=by
 rw [List.getElem?_append_right (Nat.le_refl _),Nat.sub_self]; rfl
theorem zDp (a r:E) (pre:List Comprehension):(pre++upg nm (.cons a r))[pre.length + 1]? =(upg nm r)[0]? :=by
 rw [List.getElem?_append_right (Nat.le_add_right _ 1),Nat.add_sub_cancel_left]; rfl
theorem zLT (a:E):(upc nm a).is_async=0:=by cases a <;> rfl
theorem zHt {r:E} {g:Comprehension} (h:(upg nm r)[0]? =some g):g.is_async=0:=by
 induction r using E.casesOn with
 | cons a b=>rw [←Option.some.inj h]; exact zLT a
 | _=>cases h
theorem pp5 {Z Y w O:Addr→Prop} {a:Addr} (q:PP Z (fun a=>Y a∨w a) O a):PP Z Y O a∨w a:=
 q.elim (fun q=> .inl (.inl q)) fun q=>q.elim (fun q=>q.elim (fun q=> .inl (.inr (.inl q))) .inr) fun q=> .inl (.inr (.inr q))
theorem zGX {tgs:List Nat} {r:E} (h:okG tgs r=true):r= .nil∨∃t i f b,r= .cons (.gen t i f) b:=by
 induction r using E.casesOn with
 | nil=>exact .inl rfl
 | cons a b=>induction a using E.casesOn with
  | gen t i f=>exact .inr ⟨t,i,f,b,rfl⟩
  | _=>exact absurd (show false=true from h) Bool.false_ne_true
 | _=>exact absurd (show false=true from h) Bool.false_ne_true
theorem zND {i t:E} (h:zAA (zEO i) (zKU t) true=true):zEO i=true→∃elts k pos,up nm t= .Tuple elts k pos:=by
 intro hn
 rw [hn] at h
 cases t <;> first | exact ⟨_,_,_,rfl⟩ | cases h
variable (prog w G ga gcx call rc) in
def zSr (A:Around) (env:Env) (Z O:Addr→Prop) (tgs:List Nat) (e:Expr) (D':Addr) (Acc:List D→(Addr→Prop)→Heap→Prop) (kk:Frm→Option (List D)) (t i fs r:E):Prop:=
 ∀(pre:List Comprehension),clausesOf e=pre++upg nm (.cons (.gen t i fs) r)→∀(items:List D) (I:Addr) (wr rd:Addr→Prop) (St:Nat→(Addr→Prop)→Heap→Prop),Wk prog w A (up nm t) I wr rd items St→
 ∀(j m:Nat),m + j=items.length→∀(X:Addr→Prop) (fi:Frm) (s:Shared) (ds out:List D) (R:Result→Shared→Prop),X D'→¬wr D'→(∀a,wr a→¬X a)→(∀a,rd a→(∃o,s.heap.get? a=some o)∧¬X a∧¬wr a∧¬O a)→
 FC w G ga A env Z (fun a=>X a∨wr a) O (some tgs) fi s rc→St j (PP Z (fun a=>X a∨wr a) O) s.heap→Acc ds (PP Z (fun a=>X a∨wr a) O) s.heap→(∀x∈zAu (.cons (.gen t i fs) r),zAE x fi=none)→
 zMu (items.drop j) (fun d=>bnd ((Ev gcx call t).n d fi) fun fr=>bnd ((Ev gcx call fs).a .And fr) fun c=>zAA c ((Ev gcx call r).g fr fr kk) (some []))=some out→(app ds out).length≤100000→
 (∀s',zAC (fun a=>wr a∨a=D'∨O a) s s'→FC w G ga A env Z X O (some tgs) fi s' rc→Acc (app ds out) (PP Z X O) s'.heap→R (.ok .next) s')→
 codeAny (model prog w) A (.compLoop e pre.length (.ref I) (.ref D') env) R s
theorem zOV {A:Around} {env:Env} {Z O:Addr→Prop} {tgs:List Nat} {e:Expr} {D':Addr} {emit:Sem Unit} {Acc:List D→(Addr→Prop)→Heap→Prop} {kk:Frm→Option (List D)}
  (C:zNB prog w G ga A env Z O tgs rc e D' emit Acc kk) (r:E): ∀(t i fs:E),zNj prog w G ga gcx call rc (.cons (.gen t i fs) r)→(zAA (zEO i) (zKU t) true=true)∧(Ck t).k env.scope=true∧(Ck fs).k env.scope=true∧(Ck r).g env.scope env.scope=true→
  okG tgs (.cons (.gen t i fs) r)=true→zSr prog w G ga gcx call rc A env Z O tgs e D' Acc kk t i fs r:=by
 induction r using zFS with
 | H r ihr=>
  intro t i fs hg hck hok pre hcl items I wr rd St W j m
  obtain ⟨ht,k1,k2,k3⟩:=hck
  obtain ⟨⟨sT,sF,_⟩,hgr⟩:=hg
  obtain ⟨o1,o2⟩:=zAN (show zAA ((zAu (.gen t i fs)).all fun x=>decide (x∈tgs)&& !decide (x∈zAu r)) (zAA (zIJ r) false (okG tgs r)) false=true from hok)
  have okr0:okG tgs r=true:=by
   cases q:zIJ r with
   | false=>rw [q] at o2; exact o2
   | true=>rw [q] at o2; cases o2
  have o1:=List.all_eq_true.mp o1
  induction m generalizing j with
  | zero=>
   intro hj X fi s ds out R hXD hwD hwX hrd F st ac hfi hcat hlen hR
   refine codeAny_of_tree ?_
   rw [(C.frL _ _).2.2]
   show wpAny _ _ (if (Code.compLoop e pre.length (.ref I) (.ref D') env).isFrame=true then (compTurn e pre.length (.ref I) (.ref D') env).onRaise («leaving» env) else (compTurn e pre.length (.ref I) (.ref D') env).onRaise (fun x=>do noteFrame x env; theTreesLotGoes x)) _ _ s
   rw [if_neg (by rw [(C.frL _ _).1]; exact Bool.false_ne_true)]
   refine wpAny_noted ?_
   rw [C.turn pre.length (.ref I) (up nm t) (up nm i) (ups nm fs) (by rw [hcl]; exact zJT) fun g' hg'=>by rw [hcl,zDp] at hg'; exact zHt hg']
   unfold zCt
   have e0:items.length=j:=by lia
   refine wpAny_bind (wpAny_standAt (wpAny_bind (W.done _ s _ _ F.hand (e0▸st) fun s₂ k=> ?_)))
   have hnil:items.drop j=[]:=by rw [←e0]; simp
   rw [hnil] at hcat
   cases (show some []=some out from hcat)
   refine wpAny_pure (hR s₂ (k.mono fun a V V h=> .inl h) (F.next (k.mono fun a V V h=> .inr h) (fun a h=> .inl h) fun a h=> ?_) ?_)
   ·obtain ⟨o,ho⟩:=F.fw.live a (.inr (.inl (.inl h)))
    exact ⟨o,k.get (fun y=>hwX a y h) ho⟩
   ·rw [zKx]
    exact C.acc.step _ _ _ _ _ ac (fun o ho=>k.get hwD ho) (fun a o na ho=>k.get (fun y=>na (.inr (.inl (.inr y)))) ho) fun a V V y=>y.imp id (·.imp .inl id)
  | succ m ihm=>
   intro hj X fi s ds out R hXD hwD hwX hrd F st ac hfi hcat hlen hR
   have hlt:j < items.length:=by lia
   have hdrop:items.drop j=items[j] :: items.drop (j + 1):=List.drop_eq_getElem_cons hlt
   rw [hdrop] at hcat
   obtain ⟨x,y,hx,hy,rfl⟩:=zKq hcat
   have hlen':(app (app ds x) y).length≤100000:=by rw [zGw]; exact hlen
   have hlx:(app ds x).length≤100000:=by
    rw [zAa,List.length_append] at hlen'
    lia
   obtain ⟨fr,hx1,hx⟩:=zAB hx
   obtain ⟨c,hx2,hx⟩:=zAB hx
   refine codeAny_of_tree ?_
   rw [(C.frL _ _).2.2]
   show wpAny _ _ (if (Code.compLoop e pre.length (.ref I) (.ref D') env).isFrame=true then (compTurn e pre.length (.ref I) (.ref D') env).onRaise («leaving» env) else (compTurn e pre.length (.ref I) (.ref D') env).onRaise (fun x=>do noteFrame x env; theTreesLotGoes x)) _ _ s
   rw [if_neg (by rw [(C.frL _ _).1]; exact Bool.false_ne_true)]
   refine wpAny_noted ?_
   rw [C.turn pre.length (.ref I) (up nm t) (up nm i) (ups nm fs) (by rw [hcl]; exact zJT) fun g' hg'=>by rw [hcl,zDp] at hg'; exact zHt hg']
   unfold zCt
   have hT: ∀x∈zAu t,zOx (some tgs) x:=fun x hx=>show x∈tgs from of_decide_eq_true ((Bool.and_eq_true_iff.mp (o1 x hx)).1)
   have hfrm: ∀x sl,zAE x fi=some sl→zAE x fr=some sl:=fun x sl hxs=>by
    by_cases hxt:x∈zAu t
    ·rw [hfi x (by show x∈app (zAu t) (zAu r); rw [zAa]; exact List.mem_append_left _ hxt)] at hxs; cases hxs
    ·rw [(zKJ t).1 _ _ _ x hx1 hxt]; exact hxs
   have fin: ∀(s':Shared) (ds':List D),zAC (fun a=>wr a∨a=D'∨O a) s s'→FC w G ga A env Z (fun a=>X a∨wr a) O (some tgs) fr s' rc→St (j + 1) (PP Z (fun a=>X a∨wr a) O) s'.heap→Acc ds' (PP Z (fun a=>X a∨wr a) O) s'.heap→ds'=app ds x→
     codeAny (model prog w) A (.compLoop e pre.length (.ref I) (.ref D') env) R s':=fun s' ds' k' F' st' ac' e'=>by
    subst e'
    refine ihm (j + 1) (by lia) X fi s' (app ds x) y R hXD hwD hwX (fun a ha=> ?_) ⟨F'.fw.congr hfrm,F'.hand,F'.hp,F'.gl,F'.dep,F'.un⟩ st' ac' hfi hy hlen' fun s'' k'' F'' ac''=> ?_
    ·obtain ⟨⟨o,ho⟩,h1,h2,h3⟩:=hrd a ha
     exact ⟨⟨o,k'.get (fun q=>q.elim h2 fun q=>q.elim (fun q=>h1 (q▸hXD)) h3) ho⟩,h1,h2,h3⟩
    ·rw [zGw] at ac''
     exact hR s'' (k'.trans k'' fun V V V q=>q) F'' ac''
   have hDO: ¬O D':=fun q=>(F.fw.dO _ q).2 (.inl hXD)
   refine wpAny_bind (wpAny_standAt (wpAny_bind (W.nextv (List.getElem?_eq_getElem hlt) F.fw.live st (fun v s₁ h₁=>wpAny_bind h₁) fun v s₂ k rv st2=> ?_)))
   have F2:FC w G ga A env Z (fun a=>X a∨wr a) O (some tgs) fi s₂ rc:=F.next (k.mono fun a V V h=> .inr h) (fun a h=>h) fun a h=>by
    by_cases hw:wr a
    ·exact (W.live _ _ _ st2 a hw).2
    ·obtain ⟨o,ho⟩:=F.fw.live a (.inr (.inl h)); exact ⟨o,k.get hw ho⟩
   have ac2:Acc ds (PP Z (fun a=>X a∨wr a) O) s₂.heap:=C.acc.step _ _ _ _ _ ac (fun o ho=>k.get hwD ho) (fun a o na ho=>k.get (fun q=>na (.inr (.inl (.inr q)))) ho) fun V V V q=>q
   refine wpAny_bind (sT A env Z (fun a=>X a∨wr a) O (some tgs) fi fr s₂ rc _ _ v items[j] F2 k1 hT hx1 rv fun s₃ k3' F3=> ?_)
   have st3:St (j + 1) (PP Z (fun a=>X a∨wr a) O) s₃.heap:=W.frame (j + 1) _ _ s₂.heap s₃.heap O (fun a q=> .inr (.inr q)) (fun a q q'=>(F.fw.dO a q).2 (.inr q')) (fun a q q'=>(hrd a q').2.2.2 q) (fun a q=> .inr (.inl (.inr q))) (fun V V V q=>q) st2 fun a o na ho=>k3'.get na ho
   have ac3:Acc ds (PP Z (fun a=>X a∨wr a) O) s₃.heap:=C.acc.step _ _ _ _ _ ac2 (fun o ho=>k3'.get hDO ho) (fun a o na ho=>k3'.get (fun q=>na (.inr (.inr q))) ho) fun V V V q=>q
   have kb3:zAC (fun a=>wr a∨a=D'∨O a) s s₃:=(k.mono fun a V V h=> .inl h).trans k3' fun a V V q=> .inr (.inr q)
   refine wpAny_bind (sF A env _ fr s₃ _ _ c F3.cx k2 hx2 fun s₄ q4=> ?_)
   have F4:=F3.keeps q4
   have st4:St (j + 1) (PP Z (fun a=>X a∨wr a) O) s₄.heap:=W.frame0 st3 (fun a q=> .inr (.inl (.inr q))) (fun V V V q=>q) fun a o e=>Keeps.get q4 e
   have ac4:Acc ds (PP Z (fun a=>X a∨wr a) O) s₄.heap:=C.acc.step _ _ _ _ _ ac3 (fun o ho=>Keeps.get q4 ho) (fun a o V ho=>Keeps.get q4 ho) fun V V V q=>q
   have kb4:zAC (fun a=>wr a∨a=D'∨O a) s s₄:=kb3.trans (zAC.of (O:=fun V=>False) q4) fun V V V q=>q.elim
   induction c with
   | false=>
    cases (show some []=some x from hx)
    simp only [Bool.false_eq_true,if_false]
    exact wpAny_pure ⟨(C.frL _ _).2.1,fin s₄ ds kb4 F4 st4 ac4 (zKx ds).symm⟩
   | true=>
    simp only [if_true]
    have hx:(Ev gcx call r).g fr fr kk=some x:=hx
    rcases zGX okr0 with hr | ⟨t',i',f',b,hr⟩
    ·rw [hr] at hx
     have hn1:(clausesOf e)[pre.length + 1]? =none:=by rw [hcl,zDp,hr]; rfl
     rw [hn1]
     dsimp only
     refine wpAny_bind (C.emitOk (fun a=>X a∨wr a) fr s₄ ds x _ _ (.inl hXD) F4 ac4 hx hlx fun s₅ k5 F5 ac5=>wpAny_pure ⟨(C.frL _ _).2.1,fin s₅ _ (kb4.trans k5 fun a V V q=> .inr (.inl q)) F5 ?_ ac5 rfl⟩)
     exact W.frame (j + 1) _ _ s₄.heap s₅.heap (· =D') (fun a q=>q▸ .inr (.inl (.inl hXD))) (fun a q=>q▸hwD) (fun a q q'=>(hrd a q').2.1 (q▸hXD)) (fun a q=> .inr (.inl (.inr q))) (fun V V V q=>q) st4 fun a o na ho=>k5.get na ho
    ·have hn1:(clausesOf e)[pre.length + 1]? =some ⟨up nm t',up nm i',ups nm f',0⟩:=by rw [hcl,zDp,hr]; rfl
     rw [hr] at hx hgr k3
     have okr1:=okr0
     rw [hr] at okr1
     rw [hn1]
     dsimp only
     obtain ⟨items',hi1,hi2⟩:=zAB (show bnd ((Ev gcx call i').i fr) (fun items=>zMu items fun d=>bnd ((Ev gcx call t').n d fr) fun fr=>bnd ((Ev gcx call f').a .And fr) fun c=>zAA c ((Ev gcx call b).g fr fr kk) (some []))=some x from hx)
     obtain ⟨⟨_,_,sI⟩,_⟩:=id hgr
     obtain ⟨k4,k5⟩:=zAN (show zAA (zAA (zAA (zEO i') (zKU t') true) (zAA ((Ck i').k env.scope) (zAA ((Ck t').k env.scope) ((Ck f').k env.scope) false) false) false) ((Ck b).g env.scope env.scope) false=true from k3)
     obtain ⟨k6,k7⟩:=zAN k4
     obtain ⟨k7,k8⟩:=zAN k7
     obtain ⟨k8,k9⟩:=zAN k8
     have hme:zIJ i'=false:=by
      rw [hr] at o2
      have o2:zAA (zAA (zIJ i') true (zIJ b)) false (okG tgs (.cons (.gen t' i' f') b))=true:=o2
      cases q:zIJ i' with
      | false=>rfl
      | true=>rw [q] at o2; cases o2
     refine wpAny_bind (wpAny_mono (sI A env _ fr s₄ (fun it s₆=>codeAny (model prog w) A (.compStart e (pre.length + 1) it (.ref D') env) (fun r' s'=>match r' with | .ok f=>codeAny (model prog w) A (.compLoop e pre.length (.ref I) (.ref D') env) R s' | .error _=>False) s₆) _ items' (up nm t') F4.cx k7 (zND k6) hi1 fun it s₆ M=> ?_) (fun xv s₅ h5=> ?_) fun V V q=>q)
     ·obtain ⟨I',wr',rd',St',rfl,q6,hnew,hrd',W',st'⟩:=M
      have hrd0: ∀a,¬rd' a:=hrd'.2 hme
      have old: ∀a o,s₄.heap.get? a=some o→¬wr' a:=fun a o ho q=>by rw [hnew a q] at ho; cases ho
      have oldP: ∀a,PP Z (fun a=>X a∨wr a) O a→¬wr' a:=fun a q=>by obtain ⟨o,ho⟩:=F4.fw.live a q; exact old a o ho
      have st6:St' 0 (PP Z (fun a=>(X a∨wr a)∨wr' a) O) s₆.heap:=W'.frame0 st' (fun a q=> .inr (.inl (.inr q))) (fun a o V q=>pp5 q) fun V V q=>q
      have F6:FC w G ga A env Z (fun a=>(X a∨wr a)∨wr' a) O (some tgs) fr s₆ rc:=
       ⟨F4.fw.grow q6 (fun a o ho q=>(pp5 q).resolve_right (old a o ho)) (fun a q=>(pp5 q).elim (fun q=>(F4.fw.live a q).imp fun o ho=>Keeps.get q6 ho) fun q=>(W'.live _ _ _ st6 a q).2)
         (fun a q=>⟨(F4.fw.dO a q).1,fun q'=>q'.elim (F4.fw.dO a q).2 (oldP a (.inr (.inr q)))⟩) (fun a q=>q.elim (F4.fw.dX a) fun q' z=>oldP a (.inl z) q') (fun V q=>q) fun V q=>q,
        (F4.keeps q6).hand,fun b hb q=>by
         have hlive: ¬wr' b:=by
          rcases F4.hand with hn | ⟨a,o,vs,e,g,_⟩
          ·unfold zAQ at hb; rw [hn] at hb; cases hb
          ·unfold zAQ at hb; rw [e] at hb
           have:b=a:=by simpa using hb
           subst this; exact old _ _ g
         exact (pp5 q).elim (F4.hp b hb) hlive,F4.gl,F4.dep,F4.un⟩
      have ac6:Acc ds (PP Z (fun a=>(X a∨wr a)∨wr' a) O) s₆.heap:=C.acc.step _ _ _ _ _ ac4 (fun o ho=>Keeps.get q6 ho) (fun a o V ho=>Keeps.get q6 ho) fun a o ho q=>(pp5 q).resolve_right (old a o ho)
      have inner:=ihr _ b hr t' i' f' hgr ⟨k6,k8,k9,k5⟩ okr1 (pre++[⟨up nm t,up nm i,ups nm fs,0⟩]) (by rw [hcl,hr,List.append_assoc]; rfl) items' I' wr' rd' St' W' 0 items'.length rfl (fun a=>X a∨wr a) fr s₆ ds x
       (fun r' s'=>match r' with | .ok f=>codeAny (model prog w) A (.compLoop e pre.length (.ref I) (.ref D') env) R s' | .error _=>False) (.inl hXD) (oldP D' (.inr (.inl (.inl hXD)))) (fun a q q'=>oldP a (.inr (.inl q')) q) (fun a q=>absurd q (hrd0 a)) F6 st6 ac6 (fun x hx=> ?_) (by simpa using hi2) hlx fun s' k' F' ac'=> ?_
      ·have e1:(pre++[(⟨up nm t,up nm i,ups nm fs,0⟩:Comprehension)]).length=pre.length + 1:=by simp
       rw [e1] at inner
       exact zDE (t:=up nm t') (i:=up nm i') (fs:=ups nm f') hn1 (C.frS _ _).1 (C.frL _ _).2.1 inner (W'.self 0 _ s₆ _ _ st6 inner) (C.frS _ _).2
      ·
       have hxn:x ∉ zAu t:=fun q=>by
        have:=(Bool.and_eq_true_iff.mp (o1 x q)).2
        simp only [Bool.not_eq_true',decide_eq_false_iff_not] at this
        exact this (hr▸hx)
       rw [(zKJ t).1 _ _ _ x hx1 hxn]
       exact hfi x (by show x∈app (zAu t) (zAu r); rw [zAa,hr]; exact List.mem_append_right _ hx)
      ·
       have kb7:zAC (fun a=>wr a∨a=D'∨O a) s s':=(kb4.trans (zAC.of (O:=fun V=>False) q6) fun V V V q=>q.elim).trans k' fun a o ho q=>q.elim (fun q=>(Classical.em (wr a∨a=D'∨O a)).elim id fun hw=>absurd q (old a o (kb4.get hw ho))) .inr
       refine fin s' _ kb7 F' ?_ ac' rfl
       have st7:St (j + 1) (PP Z (fun a=>(X a∨wr a)∨wr' a) O) s₆.heap:=W.frame0 st4 (fun a q=> .inr (.inl (.inl (.inr q)))) (fun a o ho q=>(pp5 q).resolve_right (old a o ho)) fun a o ho=>Keeps.get q6 ho
       have hrd4: ∀a,rd a→∃o,s₄.heap.get? a=some o:=fun a ha=>(hrd a ha).1.imp fun o ho=>kb4.get (fun q=>q.elim (hrd a ha).2.2.1 fun q=>q.elim (fun q=>(hrd a ha).2.1 (q▸hXD)) (hrd a ha).2.2.2) ho
       exact W.frame (j + 1) _ _ s₆.heap s'.heap (fun a=>wr' a∨a=D'∨O a) (fun a q=>q.elim (fun q=> .inr (.inl (.inr q))) fun q=>q.elim (fun q=>q▸ .inr (.inl (.inl (.inl hXD)))) fun q=> .inr (.inr q)) (fun a q q'=>q.elim (oldP a (.inr (.inl (.inr q')))) fun q=>q.elim (fun q=>hwD (q▸q')) fun q=>(F4.fw.dO a q).2 (.inr q')) (fun a q q'=>(hrd4 a q').elim fun o ho=>q.elim (old a o ho) fun q=>q.elim (fun q=>(hrd a q').2.1 (q▸hXD)) (hrd a q').2.2.2) (fun a q=> .inr (.inl (.inr q))) (fun a V V q=>q.imp id (·.imp .inl id)) st7 fun a o na ho=>k'.get na ho
     ·refine wpAny_bind (wpAny_standAt (wpAny_bind (wpAny_of_eq (zJd hi1 env xv) (wpAny_bind (wpAny_holding (wpAny_mono h5 (fun it s₆ h6=> ?_) fun V V q=>q))))))
      refine wpAny_bind (wpAny_runOwn (codeAny_mono h6 fun r' s' h7=> ?_))
      induction r' with
      | ok f=>exact wpAny_pure ⟨(C.frL _ _).2.1,h7⟩
      | error _=>exact h7.elim
end
theorem zBq: ∀(names:List (Str×NameKind)) (n:Nat) (acc:List (Str×Addr)),(∀p∈acc,p.2 < n)→(acc.Pairwise fun x y=>x.2≠y.2)→
  ((cellsFrom n names acc).Pairwise fun x y=>x.2≠y.2)∧∀p∈cellsFrom n names acc,p∈acc∨(n≤p.2∧(p.1,NameKind.cell)∈names)
 | [],n,acc,h1,h2=>⟨h2,fun p hp=> .inl hp⟩
 | (x,k) :: r,n,acc,h1,h2=>by
  unfold cellsFrom
  by_cases hk:(k==NameKind.cell)=true
  ·rw [if_pos hk]
   obtain rfl:k= .cell:=by simpa using hk
   have:=zBq r (n + 1) ((x,n) :: acc) (fun p hp=>by
    rcases List.mem_cons.mp hp with rfl | hp
    ·exact Nat.lt_succ_self _
    ·exact Nat.lt_succ_of_lt (h1 p hp)) (List.pairwise_cons.mpr ⟨fun p hp e=>absurd (h1 p hp) (by have e:n=p.2:=e; rw [←e]; exact Nat.lt_irrefl _),h2⟩)
   refine ⟨this.1,fun p hp=> ?_⟩
   rcases this.2 p hp with h | ⟨h3,h4⟩
   ·rcases List.mem_cons.mp h with rfl | h
    ·exact .inr ⟨Nat.le_refl _,List.mem_cons_self⟩
    ·exact .inl h
   ·exact .inr ⟨Nat.le_of_succ_le h3,List.mem_cons_of_mem _ h4⟩
  ·rw [if_neg hk]
   have:=zBq r n acc h1 h2
   refine ⟨this.1,fun p hp=> ?_⟩
   rcases this.2 p hp with h | ⟨h3,h4⟩
   ·exact .inl h
   ·exact .inr ⟨h3,List.mem_cons_of_mem _ h4⟩
theorem zBW {α:Type}: ∀{l:List (Str×α)} {x:Str} {a:α},(x,a)∈l→(l.lookup x).isSome=true
 | (y,b) :: l,x,a,h=>by
  rw [List.lookup_cons]
  cases e:x==y with
  | true=>rfl
  | false=>
   rcases List.mem_cons.mp h with h | h
   ·cases h; simp at e
   ·exact zBW h
theorem zBL: ∀(names:List (Str×NameKind)) (n:Nat) (acc:List (Str×Addr)) (p:Str×Addr),p∈acc→p∈cellsFrom n names acc
 | [],_,_,_,h=>h
 | (x,k) :: r,n,acc,p,h=>by
  unfold cellsFrom
  split
  ·exact zBL r _ _ p (List.mem_cons_of_mem _ h)
  ·exact zBL r _ _ p h
theorem zBp: ∀(names:List (Str×NameKind)) (n:Nat) (acc:List (Str×Addr)) (x:Str),(x,NameKind.cell)∈names→∃c,(x,c)∈cellsFrom n names acc
 | (y,k) :: r,n,acc,x,h=>by
  unfold cellsFrom
  rcases List.mem_cons.mp h with h | h
  ·cases h
   exact ⟨n,zBL r _ _ _ List.mem_cons_self⟩
  ·split
   ·exact zBp r _ _ x h
   ·exact zBp r _ _ x h
set_option tactic.hygienic true in
theorem zBF: ∀(names:List (Str×NameKind)) (h:Heap) (a:Addr),h.objs.size≤a→a < (pushCells h names).objs.size→(pushCells h names).IsCell a none
 | [],h,a,h1,h2=>absurd h2 (Nat.not_lt.mpr h1)
 | (_,k) :: r,h,a,h1,h2=>by
  unfold pushCells at h2 ⊢
  split at h2
  ·rename_i hk
   rw [if_pos hk]
   by_cases e:a=h.objs.size
   ·subst e
    exact ⟨_,pushCells_keeps r _ _ _ (Heap.get?_push_size _ rfl),rfl⟩
   ·exact zBF r _ a (by rw [Heap.size_push]; exact Nat.lt_of_le_of_ne h1 (Ne.symm e)) h2
  ·rename_i hk
   rw [if_neg hk]
   exact zBF r h a h1 h2
set_option tactic.hygienic true in
theorem zCE: ∀(names:List (Str×NameKind)) (h:Heap) (acc:List (Str×Addr)),(∀p∈acc,p.2 < h.objs.size)→∀p∈cellsFrom h.objs.size names acc,p.2 < (pushCells h names).objs.size
 | [],h,acc,h1,p,hp=>h1 p hp
 | (x,k) :: r,h,acc,h1,p,hp=>by
  unfold cellsFrom at hp
  unfold pushCells
  split at hp
  ·rename_i hk
   rw [if_pos hk]
   have e:h.objs.size + 1=(h.push {cls:= .type "cell",data:= .cell none}).objs.size:=(Heap.size_push ..).symm
   rw [e] at hp
   refine zCE r _ _ (fun q hq=> ?_) p hp
   rw [←e]
   rcases List.mem_cons.mp hq with rfl | hq
   ·exact Nat.lt_succ_self _
   ·exact Nat.lt_succ_of_lt (h1 q hq)
  ·rename_i hk
   rw [if_neg hk]
   exact zCE r h acc h1 p hp
noncomputable def zBX (cells:List (Str×Addr)):List (Str×NameKind)→List (Str×Addr)→List (Str×Addr)
 | [],acc=>acc
 | (x,k) :: r,acc=>zBX cells r (if k== .free then (x,(cells.lookup x).getD 0) :: acc else acc)
theorem zEa (cells:List (Str×Addr)): ∀(names:List (Str×NameKind)) (acc:List (Str×Addr)) (p:Str×Addr),p∈zBX cells names acc ↔ p∈acc∨((p.1,NameKind.free)∈names∧p.2=(cells.lookup p.1).getD 0)
 | [],acc,p=>by simp [zBX]
 | (x,k) :: r,acc,p=>by
  unfold zBX
  rw [zEa cells r]
  by_cases hk:(k==NameKind.free)=true
  ·rw [if_pos hk]
   obtain rfl:k= .free:=by simpa using hk
   constructor
   ·rintro (h | h)
    ·rcases List.mem_cons.mp h with rfl | h
     ·exact .inr ⟨List.mem_cons_self,rfl⟩
     ·exact .inl h
    ·exact .inr ⟨List.mem_cons_of_mem _ h.1,h.2⟩
   ·rintro (h | ⟨h,e⟩)
    ·exact .inl (List.mem_cons_of_mem _ h)
    ·rcases List.mem_cons.mp h with h | h
     ·left
      obtain ⟨p1,p2⟩:=p
      cases h
      rw [show p2=(cells.lookup p1).getD 0 from e]
      exact List.mem_cons_self
     ·exact .inr ⟨h,e⟩
  ·rw [if_neg hk]
   constructor
   ·rintro (h | h)
    ·exact .inl h
    ·exact .inr ⟨List.mem_cons_of_mem _ h.1,h.2⟩
   ·rintro (h | ⟨h,e⟩)
    ·exact .inl h
    ·rcases List.mem_cons.mp h with h | h
     ·cases h; simp at hk
     ·exact .inr ⟨h,e⟩
theorem zDF {scope:Scope} {env:Env} (h: ∀p∈scope.names,p.2= .free→∃c,env.cells.lookup p.1=some c):closureFor scope env=pure (zBX env.cells scope.names []):=by
 have key: ∀(names:List (Str×NameKind)) (acc:List (Str×Addr)),(∀p∈names,p.2= .free→∃c,env.cells.lookup p.1=some c)→
   (forIn names acc fun (x:Str×NameKind) (cs:List (Str×Addr))=>if (x.2==NameKind.free)=true then (do let c←cellOf env x.1; pure (ForInStep.yield ((x.1,c) :: cs))) else pure (ForInStep.yield cs):Sem (List (Str×Addr)))=pure (zBX env.cells names acc):=by
  intro names
  induction names with
  | nil=>intro acc _; rfl
  | cons p r ih=>
   intro acc hp
   obtain ⟨x,k⟩:=p
   rw [List.forIn_cons]
   by_cases hk:(k==NameKind.free)=true
   ·obtain ⟨c,hc⟩:=hp (x,k) List.mem_cons_self (by simpa using hk)
    have e:cellOf env x=pure c:=by unfold cellOf; rw [hc]
    rw [if_pos hk,e]
    simp only [pure_bind]
    rw [ih _ fun q hq=>hp q (List.mem_cons_of_mem _ hq),zBX,if_pos hk,hc]; rfl
   ·rw [if_neg hk]
    simp only [pure_bind]
    rw [ih _ fun q hq=>hp q (List.mem_cons_of_mem _ hq),zBX,if_neg hk]
 unfold closureFor
 have:=key scope.names [] h
 rw [show (do
  let mut cs:=[]
  for (name,kind) in scope.names do
   if kind== .free then cs:=(name, ←cellOf env name) :: cs
  return cs:Sem (List (Str×Addr)))=(forIn scope.names [] fun (x:Str×NameKind) (cs:List (Str×Addr))=>if (x.2==NameKind.free)=true then (do let c←cellOf env x.1; pure (ForInStep.yield ((x.1,c) :: cs))) else pure (ForInStep.yield cs)) >>= pure from rfl,this]
 rfl
theorem zFO {M:Model} {A:Around} {E:Value→Shared→Prop} {s:Shared} {scope:Scope} {cl:List (Str×Addr)} {env:Env} {Q:Env→Shared→Prop}
  (hQ:Q {scope,locals:=s.heap.objs.size,globals:=env.globals,cells:=cellsFrom (s.heap.objs.size + 1) scope.names cl,qual:=env.qual,func:=none,code:=env.code,frame:=env.frame,builtins:=env.builtins}
   {s with heap:=pushCells (s.heap.push {cls:= .type "dict",data:= .dict #[]}) scope.names}):
  wpAny M A (newFunctionEnv scope env.globals cl [] env.qual none .none (some env)) Q E s:=by
 simp only [newFunctionEnv,Option.isSome_some,if_true]
 refine wpAny_bind (wpAny_alloc ?_)
 refine wpAny_bind (wpAny_layCells _ (fun name kind cells=>by cases hkc:kind==NameKind.cell <;> simp [hkc]) _ _ _ _ ?_)
 rw [show ({s with heap:=s.heap.push {cls:= .type "dict",data:= .dict #[]}}:Shared).heap.objs.size=s.heap.objs.size + 1 from Heap.size_push ..]
 refine wpAny_bind ?_
 rw [List.forIn_nil]
 exact wpAny_pure (wpAny_pure hQ)
theorem zCT (x y:Nat): ∀l:Frm,zAE y (zNh x l)=if y=x then none else zAE y l
 | []=>by
  show none=_
  split <;> rfl
 | p :: r=>by
  have fc: ∀(q:Nat×Slot) (l:Frm),zAE y (q :: l)=zAA (Nat.beq q.1 y) (some q.2) (zAE y l):=fun V V=>rfl
  show zAE y (zAA (Nat.beq p.1 x) (zNh x r) (p :: zNh x r))=_
  rw [zEx]
  by_cases hp:p.1=x
  ·rw [decide_eq_true hp,zAJ,zCT x y r,fc,zEx,hp]
   by_cases h:y=x
   ·rw [if_pos h,if_pos h]
   ·rw [if_neg h,if_neg h,decide_eq_false fun e=>h e.symm,zAF]
  ·rw [decide_eq_false hp,zAF,fc,fc,zCT x y r,zEx]
   by_cases h:y=x
   ·rw [if_pos h,if_pos h,h,decide_eq_false hp,zAF]
   ·rw [if_neg h,if_neg h]
theorem zDR (y:Nat) (fr:Frm): ∀l:List Nat,zAE y (zIT l fr)=if y∈l then none else zAE y fr
 | []=>by simp [zIT]
 | x :: l=>by
  show zAE y (zNh x (zIT l fr))=_
  rw [zCT,zDR y fr l]
  by_cases h:y=x
  ·simp [h]
  ·by_cases h2:y∈l <;> simp [h,h2]
theorem zAg {α:Type}: ∀{l:List (Str×α)} {x:Str} {a:α},(l.map (·.1)).Nodup→(x,a)∈l→l.lookup x=some a
 | (y,b) :: l,x,a,hn,h=>by
  rw [List.map_cons,List.nodup_cons] at hn
  rw [List.lookup_cons]
  rcases List.mem_cons.mp h with h | h
  ·cases h; simp
  ·have hne:(x==y)=false:=by
    rw [beq_eq_false_iff_ne]; intro e
    exact hn.1 (List.mem_map.mpr ⟨(x,a),h,e⟩)
   rw [hne]; exact zAg hn.2 h
theorem zIx {k:Option NameKind} (h:zKW k=true):k=some .cell:=by
 induction k with
 | none=>cases h
 | some k=>cases k <;> first | rfl | cases h
theorem zSm {tg:List Nat} {x:Str} (h:(tg.any fun y=>decide (nm y=x))=true): ∃y∈tg,nm y=x:=by
 obtain ⟨y,hy,e⟩:=List.any_eq_true.mp h
 exact ⟨y,hy,of_decide_eq_true e⟩
section
variable {prog:Program} {w:World} {G:Heap} {ga:Addr×Addr} {gcx:Nat→Option D} {call:Nat→List D→Option D} {rc:Nat}
structure ScOk (sc sc':Scope) (tg:List Nat):Prop where
 k1:sc.kind= .function
 k2:sc'.kind= .function
 nd:(sc'.names.map (·.1)).Nodup
 own: ∀x k,(x,k)∈sc'.names→(k= .local∨k= .cell)→∃y∈18 :: tg,nm y=x
 free: ∀x,(x,NameKind.free)∈sc'.names→sc.names.lookup x=some .cell∧∀y∈18 :: tg,nm y≠x
theorem zID {sc sc':Scope} {tg:List Nat} (h:zPt sc sc' tg=true):ScOk sc sc' tg:=by
 obtain ⟨h1,h⟩:=zAN h
 obtain ⟨h2,h⟩:=zAN h
 obtain ⟨h3,h4⟩:=zAN h
 have h4:=List.all_eq_true.mp h4
 refine ⟨by simpa using h1,by simpa using h2,of_decide_eq_true h3,fun x k hm hk=> ?_,fun x hm=> ?_⟩
 ·have:=h4 (x,k) hm
  rcases hk with rfl | rfl <;> exact zSm this
 ·obtain ⟨h5,h6⟩:=zAN (show zAA (zKW (sc.names.lookup x)) (zEm ((18 :: tg).any fun y=>decide (nm y=x))) false=true from h4 (x, .free) hm)
  refine ⟨zIx h5,fun y hy e=> ?_⟩
  rw [zCh] at h6
  have:((18 :: tg).any fun y=>decide (nm y=x))=true:=List.any_eq_true.mpr ⟨y,hy,decide_eq_true e⟩
  rw [this] at h6; cases h6
def zOy (sc':Scope) (env:Env) (C:Addr):Env:=
 {scope:=relabel sc' env,locals:=C,globals:=env.globals,cells:=cellsFrom (C + 1) sc'.names (zBX env.cells sc'.names []),qual:=env.qual,func:=none,code:=env.code,frame:=env.frame,builtins:=env.builtins}
set_option tactic.hygienic true in
theorem zCa {sc':Scope} {env:Env} {x:Str} {k:NameKind} (h:(relabel sc' env).names.lookup x=some k): ∃k',(x,k')∈sc'.names∧k=(if (k'==NameKind.free&&env.scope.kind== .function&&env.kindOf x==some .cell) then .cell else k'):=by
 have hm:=mem_of_lookup h
 obtain ⟨p,hp,e⟩:=List.mem_map.mp hm
 obtain ⟨y,k'⟩:=p
 dsimp only at e
 split at e
 ·rename_i hc; cases e; exact ⟨k',hp,by rw [if_pos hc]⟩
 ·rename_i hc; cases e; exact ⟨_,hp,by rw [if_neg hc]⟩
set_option tactic.hygienic true in
theorem zJD {A:Around} {env:Env} {P:Addr→Prop} {fr:Frm} {s s₃:Shared} {n:Nat} {sc':Scope} {tg:List Nat} {X:Addr→Prop} (cx:Cx w G ga A env P fr s n) (so:ScOk env.scope sc' tg) (q:Keeps s s₃)
  (hX: ∀a,X a→s.heap.get? a=none) (hXl: ∀a,X a→∃o,s₃.heap.get? a=some o):
  FC w G ga A (zOy sc' env s₃.heap.objs.size) P X (fun a=>s₃.heap.objs.size≤a∧a < (pushCells (s₃.heap.push {cls:= .type "dict",data:= .dict #[]}) sc'.names).objs.size) (some tg) (zIT (18 :: tg) fr)
   {s₃ with heap:=pushCells (s₃.heap.push {cls:= .type "dict",data:= .dict #[]}) sc'.names} n:=by
 have hsz:(s₃.heap.push {cls:= .type "dict",data:= .dict #[]}).objs.size=s₃.heap.objs.size + 1:=Heap.size_push ..
 have q4:Keeps s₃ {s₃ with heap:=pushCells (s₃.heap.push {cls:= .type "dict",data:= .dict #[]}) sc'.names}:=⟨_,s₃.toks,rfl,fun a o e=>pushCells_keeps _ _ _ _ (Heap.get?_push_of_some _ e)⟩
 have qq:=Keeps.trans q q4
 have old: ∀a o,s.heap.get? a=some o→a < s₃.heap.objs.size:=fun a o e=>Heap.lt_size (Keeps.get q e)
 have hCl:(pushCells (s₃.heap.push {cls:= .type "dict",data:= .dict #[]}) sc'.names).Ns s₃.heap.objs.size (fun _=>none):=(Heap.Ns.new s₃.heap (.type "dict")).keeps (pushCells_keeps _ _)
 have hClt:s₃.heap.objs.size < (pushCells (s₃.heap.push {cls:= .type "dict",data:= .dict #[]}) sc'.names).objs.size:=hCl.lt
 have hcl: ∀p∈zBX env.cells sc'.names [],(p.1,NameKind.free)∈sc'.names∧env.cells.lookup p.1=some p.2:=fun p hp=>by
  rcases (zEa _ _ _ _).mp hp with h | ⟨h1,h2⟩
  ·cases h
  ·obtain ⟨c,v,e,_⟩:=cx.ok.cells p.1 (so.free _ h1).1
   rw [e] at h2
   exact ⟨h1,by rw [e,show p.2=c from h2]⟩
 have hclt: ∀p∈zBX env.cells sc'.names [],p.2 < (s₃.heap.push {cls:= .type "dict",data:= .dict #[]}).objs.size:=fun p hp=>by
  obtain ⟨h1,h2⟩:=hcl p hp
  obtain ⟨o,ho⟩:=cx.ok.live _ (cx.ok.cset _ _ h2)
  rw [hsz]; exact Nat.lt_succ_of_lt (old _ o ho)
 have hclp:(zBX env.cells sc'.names []).Pairwise fun x y=>x.2≠y.2:=by
  have key: ∀(names:List (Str×NameKind)) (acc:List (Str×Addr)),(names.map (·.1)).Nodup→(∀p∈names,p.2= .free→∃c,env.cells.lookup p.1=some c)→(∀p∈acc,p.1 ∉ names.map (·.1)∧env.cells.lookup p.1=some p.2)→
    (acc.Pairwise fun x y=>x.2≠y.2)→(zBX env.cells names acc).Pairwise fun x y=>x.2≠y.2:=by
   intro names
   induction names with
   | nil=>intro acc _ _ _ h; exact h
   | cons p r ih=>
    obtain ⟨x,k⟩:=p
    intro acc hn hf ha hp
    rw [List.map_cons,List.nodup_cons] at hn
    unfold zBX
    refine ih _ hn.2 (fun p hp=>hf p (List.mem_cons_of_mem _ hp)) (fun p hp'=> ?_) ?_
    ·split at hp'
     ·rename_i hk
      rcases List.mem_cons.mp hp' with rfl | hp'
      ·obtain ⟨c,hc⟩:=hf (x,k) List.mem_cons_self (by simpa using hk)
       exact ⟨hn.1,by rw [hc]; rfl⟩
      ·exact ⟨fun h=>(ha p hp').1 (List.mem_cons_of_mem _ h),(ha p hp').2⟩
     ·exact ⟨fun h=>(ha p hp').1 (List.mem_cons_of_mem _ h),(ha p hp').2⟩
    ·split
     ·rename_i hk
      refine List.pairwise_cons.mpr ⟨fun y hy e=> ?_,hp⟩
      obtain ⟨c,hc⟩:=hf (x,k) List.mem_cons_self (by simpa using hk)
      have e:(env.cells.lookup x).getD 0=y.2:=e
      rw [hc] at e
      have h2:=(ha y hy).2
      have:=cx.ok.cinj x y.1 y.2 (by rw [hc]; exact congrArg some e) h2
      exact (ha y hy).1 (by rw [←this]; exact List.mem_cons_self)
     ·exact hp
  refine key _ _ so.nd (fun p hp hk=> ?_) (fun p hp=>by cases hp) List.Pairwise.nil
  obtain ⟨c,v,e,_⟩:=cx.ok.cells p.1 (so.free p.1 (by rw [←hk]; exact hp)).1
  exact ⟨c,e⟩
 have all:=zBq sc'.names (s₃.heap.objs.size + 1) (zBX env.cells sc'.names []) (fun p hp=>hsz▸hclt p hp) hclp
 have alllt:=zCE sc'.names (s₃.heap.push {cls:= .type "dict",data:= .dict #[]}) (zBX env.cells sc'.names []) hclt
 rw [hsz] at alllt
 have inj: ∀m n' c,(zOy sc' env s₃.heap.objs.size).cells.lookup m=some c→(zOy sc' env s₃.heap.objs.size).cells.lookup n'=some c→m=n':=fun m n' c h1 h2=>name_of_addr all.1 (mem_of_lookup h1) (mem_of_lookup h2)
 have cases_: ∀m c,(zOy sc' env s₃.heap.objs.size).cells.lookup m=some c→((m,NameKind.free)∈sc'.names∧env.cells.lookup m=some c)∨(s₃.heap.objs.size + 1≤c∧(m,NameKind.cell)∈sc'.names):=fun m c h=>by
  rcases all.2 _ (mem_of_lookup h) with h | h
  ·exact .inl (hcl _ h)
  ·exact .inr h
 have hfree: ∀m,(m,NameKind.free)∈sc'.names→∃c v,env.cells.lookup m=some c∧(zOy sc' env s₃.heap.objs.size).cells.lookup m=some c∧s.heap.IsCell c v:=fun m hm=>by
  obtain ⟨c,v,e,r⟩:=cx.ok.cells m (so.free m hm).1
  refine ⟨c,v,e, ?_,r⟩
  have h1:(m,c)∈cellsFrom (s₃.heap.objs.size + 1) sc'.names (zBX env.cells sc'.names []):=zBL _ _ _ _ ((zEa _ _ _ _).mpr (.inr ⟨hm,by rw [e]; rfl⟩))
  have h2:=zBW h1
  obtain ⟨c',hc'⟩:=Option.isSome_iff_exists.mp h2
  rcases cases_ m c' hc' with ⟨_,e'⟩ | ⟨_,e'⟩
  ·rw [e] at e'; cases e'; exact hc'
  ·have a1:=zAg so.nd hm; have a2:=zAg so.nd e'
   rw [a1] at a2; cases a2
 have hnP: ∀a,s₃.heap.objs.size≤a→¬P a:=fun a h p=>by
  obtain ⟨o,ho⟩:=cx.ok.live a p
  exact absurd (old a o ho) (Nat.not_lt.mpr h)
 have hnX: ∀a,s₃.heap.objs.size≤a→¬X a:=fun a h p=>by
  obtain ⟨o,ho⟩:=hXl a p
  exact absurd (Heap.lt_size ho) (Nat.not_lt.mpr h)
 refine ⟨⟨fun a o e=>⟨Keeps.get qq (cx.ok.glob a o e).1, ?_⟩,fun a h=> ?_,fun a h=>⟨hnP a h.1,hnX a h.1⟩,fun a h p=> ?_,so.k2,⟨Nat.le_refl _,hClt⟩,fun m hm=> ?_,fun m c h=> ?_,fun m c h=> ?_,inj,fun x c hx hk hc=> ?_,fun _=>none,hCl,fun x sl e hk=> ?_,fun e=>by cases e⟩,
  (cx.keeps qq).hand,fun b hb h=> ?_,cx.gl,cx.dep,cx.un⟩
 ·rintro (h | h | h)
  ·exact (cx.ok.glob a o e).2 h
  ·have:=hX a h; rw [(cx.ok.glob a o e).1] at this; cases this
  ·exact absurd (old a o (cx.ok.glob a o e).1) (Nat.not_lt.mpr h.1)
 ·rcases h with h | h | ⟨h1,h2⟩
  ·obtain ⟨o,ho⟩:=cx.ok.live a h; exact ⟨o,Keeps.get qq ho⟩
  ·obtain ⟨o,ho⟩:=hXl a h; exact ⟨o,Keeps.get q4 ho⟩
  ·by_cases e:a=s₃.heap.objs.size
   ·subst e; obtain ⟨o,_,_,ho,_⟩:=hCl; exact ⟨o,ho⟩
   ·obtain ⟨o,ho,_⟩:=zBF sc'.names (s₃.heap.push {cls:= .type "dict",data:= .dict #[]}) a (by rw [hsz]; exact Nat.lt_of_le_of_ne h1 (Ne.symm e)) h2
    exact ⟨o,ho⟩
 ·obtain ⟨o,ho⟩:=cx.ok.live a p
  have:=hX a h; rw [ho] at this; cases this
 ·obtain ⟨k',hm',ek⟩:=zCa (show (relabel sc' env).names.lookup m=some .cell from hm)
  by_cases hf:k'= .free
  ·subst hf
   obtain ⟨c,v,_,e2,r⟩:=hfree m hm'
   exact ⟨c,v,e2,r.keeps fun a o e=>Keeps.get qq e⟩
  ·have:k'= .cell:=by
    rw [if_neg (by intro hc; exact hf (by simpa using (Bool.and_eq_true_iff.mp (Bool.and_eq_true_iff.mp hc).1).1))] at ek
    exact ek.symm
   subst this
   obtain ⟨c,hc⟩:=zBp sc'.names (s₃.heap.objs.size + 1) (zBX env.cells sc'.names []) m hm'
   obtain ⟨c',hc'⟩:=Option.isSome_iff_exists.mp (zBW hc)
   refine ⟨c',none,hc', ?_⟩
   rcases cases_ m c' hc' with ⟨e',_⟩ | ⟨h1,_⟩
   ·have a1:=zAg so.nd hm'; have a2:=zAg so.nd e'
    rw [a1] at a2; cases a2
   ·exact zBF _ _ _ (by rw [hsz]; exact h1) (alllt (m,c') (mem_of_lookup hc'))
 ·rcases cases_ m c h with ⟨_,e⟩ | ⟨h1,_⟩
  ·exact .inr (cx.ok.cset m c e)
  ·exact .inl ⟨Nat.le_of_succ_le h1,alllt (m,c) (mem_of_lookup h)⟩
 ·rcases cases_ m c h with ⟨hf,e⟩ | ⟨h1,_⟩
  ·obtain ⟨c',v',e1,_,r⟩:=hfree m hf
   rw [e] at e1; cases e1
   exact ⟨v',r.keeps fun a o e=>Keeps.get qq e⟩
  ·exact ⟨none,zBF _ _ _ (by rw [hsz]; exact h1) (alllt (m,c) (mem_of_lookup h))⟩
 ·rcases cases_ _ c hc with ⟨hf,_⟩ | ⟨h1,_⟩
  ·exact absurd rfl ((so.free _ hf).2 x (List.mem_cons_of_mem _ hx))
  ·exact ⟨Nat.le_of_succ_le h1,alllt (nm x,c) (mem_of_lookup hc)⟩
 ·rw [zDR] at e
  by_cases hx:x∈18 :: tg
  ·rw [if_pos hx] at e; cases e
  ·rw [if_neg hx] at e
   have hkc:(nm x,NameKind.free)∈sc'.names∧env.kindOf (nm x)=some .cell∧kN (relabel sc' env) x=some .cell:=by
    have key: ∀k,kN (relabel sc' env) x=some k→(k= .local∨k= .cell)→(nm x,NameKind.free)∈sc'.names∧env.kindOf (nm x)=some .cell∧kN (relabel sc' env) x=some .cell:=fun k hk' hk2=>by
     obtain ⟨k',hm',ek⟩:=zCa (show (relabel sc' env).names.lookup (nm x)=some k from hk')
     by_cases hf:k'= .free
     ·subst hf
      have hce:=(so.free _ hm').1
      refine ⟨hm',hce, ?_⟩
      rw [if_pos (by simp [so.k1,show env.kindOf (nm x)=some .cell from hce])] at ek
      rw [hk',ek]
     ·rw [if_neg (by intro hc; exact hf (by simpa using (Bool.and_eq_true_iff.mp (Bool.and_eq_true_iff.mp hc).1).1))] at ek
      subst ek
      obtain ⟨y,hy,ey⟩:=so.own _ _ hm' hk2
      exact absurd (zEw ey▸hy) hx
    rcases hk with hk | hk
    ·exact key _ hk (.inl rfl)
    ·exact key _ hk (.inr rfl)
   obtain ⟨hm',hce,hkr⟩:=hkc
   obtain ⟨m,hn,hv⟩:=cx.ok.names
   obtain ⟨v,h1,h2⟩:=hv x sl e (.inr hce)
   rcases h1 with ⟨h1,_⟩ | ⟨_,c,hc,hr⟩
   ·rw [show kN env.scope x=some .cell from hce] at h1; cases h1
   ·obtain ⟨c',v',e1,e2,_⟩:=hfree _ hm'
    rw [hc] at e1; obtain rfl:=Option.some.inj e1
    refine ⟨v, .inr ⟨hkr,c,e2,hr.keeps fun a o e=>Keeps.get qq e⟩, ?_⟩
    have hw: ∀a o,s.heap.get? a=some o→PP P X (fun a=>s₃.heap.objs.size≤a∧a < (pushCells (s₃.heap.push {cls:= .type "dict",data:= .dict #[]}) sc'.names).objs.size) a→P a:=fun a o ho y=>by
     rcases y with y | y | y
     ·exact y
     ·have:=hX a y; rw [ho] at this; cases this
     ·exact absurd (old a o ho) (Nat.not_lt.mpr y.1)
    induction sl with
    | val d=>exact RdW.step (fun a o _ e=>Keeps.get qq e) hw (show RdW P s.heap v d from h2)
    | own d=>
     obtain ⟨h3,h4⟩:=h2
     have ha: ∃a,v= .ref a∧∃o,s.heap.get? a=some o:=by
      induction d using PyData.casesOn with
      | list xs=>obtain ⟨a,vs,k,e,g,_⟩:=h3; exact ⟨a,e,_,g⟩
      | dict kvs=>obtain ⟨a,e,r⟩:=h3; obtain ⟨o,_,_,ho,_⟩:=r.at; exact ⟨a,e,o,ho⟩
      | _=>exact h3.elim
     obtain ⟨a,rfl,o,ho⟩:=ha
     exact ⟨h3.step (fun b o _ e=>Keeps.get qq e) (fun a o _ e=>Keeps.get qq e) hw,a,rfl, .inr (h4 a rfl),(fun e=>absurd e Bool.false_ne_true),Nat.ne_of_lt (old a o ho)⟩
 ·have hlive: ∃o,s.heap.get? b=some o:=by
   rcases cx.hand with hn | ⟨a,o,vs,e,g,_⟩
   ·unfold zAQ at hb; rw [hn] at hb; cases hb
   ·unfold zAQ at hb; rw [e] at hb
    have:b=a:=by simpa using hb
    subst this; exact ⟨o,g⟩
  obtain ⟨o,ho⟩:=hlive
  rcases h with h | h | h
  ·exact cx.hp b hb h
  ·have:=hX b h; rw [ho] at this; cases this
  ·exact absurd (old b o ho) (Nat.not_lt.mpr h.1)
end
section
variable {prog:Program} {w:World} {G:Heap} {ga:Addr×Addr} {gcx:Nat→Option D} {call:Nat→List D→Option D} {rc:Nat}
theorem zOM {tg:List Nat}: ∀(g:E),okG tg g=true→∀x∈zAu g,x∈tg:=by
 intro g
 induction g with
 | cons h t _ ih=>
  intro hok x hx
  obtain ⟨_,h1⟩:=zAN (show zAA (isGe h) (zAA ((zAu h).all fun x=>decide (x∈tg)&& !decide (x∈zAu t)) (zAA (zIJ t) false (okG tg t)) false) false=true from hok)
  obtain ⟨h1,h2⟩:=zAN h1
  have hx:x∈zAu h++zAu t:=by rw [←zAa]; exact hx
  rcases List.mem_append.mp hx with hx | hx
  ·exact of_decide_eq_true (Bool.and_eq_true_iff.mp (List.all_eq_true.mp h1 x hx)).1
  ·refine ih ?_ x hx
   cases q:zIJ t with
   | false=>rw [q] at h2; exact h2
   | true=>rw [q] at h2; cases h2
 | nil=>intro _ x hx; cases hx
 | _=>intro h; exact absurd (show false=true from h) Bool.false_ne_true
theorem zGr {A:Around} {env:Env} {P:Addr→Prop} {fr:Frm} {s:Shared} {E:Value→Shared→Prop} {sc':Scope} {tg:List Nat} {t i fs r:Mine.E} {e:Expr} {out:List D} {kk:Frm→Option (List D)} {oAcc:Obj} {newAcc:Sem Value}
  {emit:Addr→Env→Sem Unit} {Acc:Addr→List D→(Addr→Prop)→Heap→Prop} {R:Value→Addr→Result→Shared→Prop} (cx:Cx w G ga A env P fr s rc) (so:ScOk env.scope sc' tg) (okg:okG tg (.cons (.gen t i fs) r)=true)
  (hg:zNj prog w G ga gcx call rc (.cons (.gen t i fs) r)) (hck:(Ck (.cons (.gen t i fs) r)).g env.scope (zAm env.scope sc')=true) (hcl:clausesOf e=upg nm (.cons (.gen t i fs) r))
  (hev:(Ev gcx call (.cons (.gen t i fs) r)).g fr (zIT (18 :: tg) fr) kk=some out) (hlen:out.length≤100000)
  (hNew: ∀(s:Shared) (Q:Value→Shared→Prop) (E:Value→Shared→Prop),Q (.ref s.heap.objs.size) {s with heap:=s.heap.push oAcc}→wpAny (model prog w) A newAcc Q E s) (hAf: ∀h:Heap,(h.push oAcc).get? h.objs.size=some oAcc)
  (hA0: ∀D' P h,h.get? D'=some oAcc→(D'==sysModules)=false→Acc D' [] P h) (hsys: ∀s',Keeps s s'→(s'.heap.objs.size==sysModules)=false)
  (hC: ∀(cenv:Env) (Z O:Addr→Prop) (D':Addr),cenv.scope=zAm env.scope sc'→zNB prog w G ga A cenv Z O tg rc e D' (emit D' cenv) (Acc D') kk)
  (hR: ∀(D' C:Addr) (O:Addr→Prop) (s':Shared),Keeps s s'→s.heap.get? D'=none→s.heap.get? C=none→D'≠C→(∃m,s'.heap.Ns C m)→Acc D' out (PP P (· =D') O) s'.heap→O C→R (.ref D') C (.ok .next) s'):
  wpAny (model prog w) A (eval (up nm i) env) (fun x s₁=>wpAny (model prog w) A (pyIter x) (fun it s₂=>wpAny (model prog w) A newAcc (fun acc s₃=>wpAny (model prog w) A (newFunctionEnv sc' env.globals (zBX env.cells sc'.names []) [] env.qual none .none (some env)) (fun cenv s₄=>
   codeAny (model prog w) A (.compStart e 0 it acc {cenv with scope:=relabel sc' env}) (R acc cenv.locals) s₄) E s₃) E s₂) E s₁) E s:=by
 obtain ⟨⟨_,_,sI⟩,_⟩:=id hg
 obtain ⟨k4,k5⟩:=zAN (show zAA (zAA (zAA (zEO i) (zKU t) true) (zAA ((Ck i).k env.scope) (zAA ((Ck t).k (zAm env.scope sc')) ((Ck fs).k (zAm env.scope sc')) false) false) false) ((Ck r).g (zAm env.scope sc') (zAm env.scope sc')) false=true from hck)
 obtain ⟨k6,k7⟩:=zAN k4
 obtain ⟨k7,k8⟩:=zAN k7
 obtain ⟨k8,k9⟩:=zAN k8
 obtain ⟨items,hi1,hi2⟩:=zAB (show bnd ((Ev gcx call i).i fr) (fun items=>zMu items fun d=>bnd ((Ev gcx call t).n d (zIT (18 :: tg) fr)) fun fr=>bnd ((Ev gcx call fs).a .And fr) fun c=>zAA c ((Ev gcx call r).g fr fr kk) (some []))=some out from hev)
 refine sI A env P fr s _ E items (up nm t) cx k7 (zND k6) hi1 fun it s₂ M=> ?_
 obtain ⟨I,wr,rd,St,rfl,q2,hnew,hrd,W,st⟩:=M
 refine hNew s₂ _ _ (zFO ?_)
 have q3:Keeps s₂ {s₂ with heap:=s₂.heap.push oAcc}:=Keeps.push s₂ oAcc
 have q23:=Keeps.trans q2 q3
 have hsz:(s₂.heap.push oAcc).objs.size=s₂.heap.objs.size + 1:=Heap.size_push ..
 have hDs:s.heap.get? s₂.heap.objs.size=none:=by
  cases h:s.heap.get? s₂.heap.objs.size with
  | none=>rfl
  | some o=>exact absurd (Heap.lt_size (Keeps.get q2 h)) (Nat.lt_irrefl _)
 have hCs:s.heap.get? (s₂.heap.push oAcc).objs.size=none:=by
  cases h:s.heap.get? (s₂.heap.push oAcc).objs.size with
  | none=>rfl
  | some o=>exact absurd (Heap.lt_size (Keeps.get q23 h)) (Nat.lt_irrefl _)
 have live2: ∀a,wr a→∃o,s₂.heap.get? a=some o:=fun a h=>(W.live _ _ _ st a h).2
 have hwD: ¬wr s₂.heap.objs.size:=fun h=>by obtain ⟨o,ho⟩:=live2 _ h; exact absurd (Heap.lt_size ho) (Nat.lt_irrefl _)
 have FW:=zJD (X:=fun a=>a=s₂.heap.objs.size∨wr a) cx so q23 (fun a h=>h.elim (fun h=>h▸hDs) (hnew a)) (fun a h=>by
  rcases h with h | h
  ·exact ⟨oAcc,h▸hAf s₂.heap⟩
  ·obtain ⟨o,ho⟩:=live2 a h; exact ⟨o,Keeps.get q3 ho⟩)
 have q4:Keeps {s₂ with heap:=s₂.heap.push oAcc} {s₂ with heap:=pushCells ((s₂.heap.push oAcc).push {cls:= .type "dict",data:= .dict #[]}) sc'.names}:=⟨_,s₂.toks,rfl,fun a o e=>pushCells_keeps _ _ _ _ (Heap.get?_push_of_some _ e)⟩
 have st4:=W.frame0 (P':=PP P (fun a=>a=s₂.heap.objs.size∨wr a) (fun a=>(s₂.heap.push oAcc).objs.size≤a∧a < (pushCells ((s₂.heap.push oAcc).push {cls:= .type "dict",data:= .dict #[]}) sc'.names).objs.size)) (h':=pushCells ((s₂.heap.push oAcc).push {cls:= .type "dict",data:= .dict #[]}) sc'.names) st (fun a h=> .inr (.inl (.inr h))) (fun a o ho h=>by
  rcases h with h | (h | h) | h
  ·exact .inl h
  ·exact absurd (Heap.lt_size ho) (by rw [h]; exact Nat.lt_irrefl _)
  ·exact .inr h
  ·exact absurd (Heap.lt_size (Keeps.get q3 ho)) (Nat.not_lt.mpr h.1)) fun a o e=>Keeps.get q4 (Keeps.get q3 e)
 have hcw:=hC (zOy sc' env (s₂.heap.push oAcc).objs.size) P (fun a=>(s₂.heap.push oAcc).objs.size≤a∧a < (pushCells ((s₂.heap.push oAcc).push {cls:= .type "dict",data:= .dict #[]}) sc'.names).objs.size) s₂.heap.objs.size rfl
 have inner:=zOV hcw r t i fs hg ⟨k6,k8,k9,k5⟩ okg [] hcl items I wr rd St W 0 items.length rfl (· =s₂.heap.objs.size) (zIT (18 :: tg) fr)
  {s₂ with heap:=pushCells ((s₂.heap.push oAcc).push {cls:= .type "dict",data:= .dict #[]}) sc'.names} [] out (R (.ref s₂.heap.objs.size) (s₂.heap.push oAcc).objs.size) rfl hwD (fun a h h'=>hwD (h'▸h)) (fun a h=> ?_) FW st4
  (hA0 _ _ _ (Keeps.get q4 (hAf s₂.heap)) (hsys s₂ q2)) (fun x hx=> ?_) (by simpa using hi2) (by rw [zAa]; simpa using hlen) fun s' k F' ac=> ?_
 ·show codeAny (model prog w) A (.compStart e 0 (.ref I) (.ref s₂.heap.objs.size) (zOy sc' env (s₂.heap.push oAcc).objs.size)) _ _
  exact zDE (t:=up nm t) (i:=up nm i) (fs:=ups nm fs) (by rw [hcl]; rfl) (hcw.frS _ _).1 (hcw.frL _ _).2.1 inner (W.self 0 _ _ _ _ st4 inner) (hcw.frS _ _).2
 ·obtain ⟨o,ho⟩:=hrd.1 a h
  exact ⟨⟨o,Keeps.get q4 (Keeps.get q23 ho)⟩,(fun e=>by rw [e,hDs] at ho; cases ho),(fun e=>by rw [hnew a e] at ho; cases ho),fun e=>absurd (Heap.lt_size (Keeps.get q23 ho)) (Nat.not_lt.mpr e.1)⟩
 ·rw [zDR,if_pos (List.mem_cons_of_mem _ (zOM _ okg x hx))]
 ·have kall:Keeps s s':=by
   refine ((zAC.of (O:=fun V=>False) (Keeps.trans q23 q4)).trans k fun a o ho h=> ?_).keeps fun a o ho h=>h.elim
   rcases h with h | h | h
   ·rw [hnew a h] at ho; cases ho
   ·rw [h,hDs] at ho; cases ho
   ·exact absurd (Heap.lt_size (Keeps.get q23 ho)) (Nat.not_lt.mpr h.1)
  obtain ⟨m,hm,_⟩:=F'.fw.names
  exact hR _ _ _ s' kall hDs hCs (by rw [hsz]; exact Nat.ne_of_lt (Nat.lt_succ_self _)) ⟨m,hm⟩ (by rw [show app [] out=out from rfl] at ac; exact ac) F'.fw.loc
end
section
variable {prog:Program} {w:World} {G:Heap} {ga:Addr×Addr} {mg:Str→Option Value} {gcx:Nat→Option D} {call:Nat→List D→Option D} {rc:Nat}
def AccL (D':Addr) (ds:List D) (P:Addr→Prop) (h:Heap):Prop:=∃vs n,h.get? D'=some (zBz vs n)∧zAK P h vs.toList ds
theorem zOz (D':Addr):zPG D' (AccL D') where
 step:=fun ds P P' h h' ⟨vs,n,g,r⟩ hD hk hw=>⟨vs,n,hD _ g,r.step hk hw⟩
theorem compL {A:Around} {elt g:E} {sc':Scope} {tg:List Nat} {p:Pos} {sc:Scope} (se:SE prog w G ga gcx call rc elt) (hk:(Ck elt).k (zAm sc sc')=true) (cenv:Env) (Z O:Addr→Prop) (D':Addr) (hs:cenv.scope=zAm sc sc'):
  zNB prog w G ga A cenv Z O tg rc (.ListComp (up nm elt) (upg nm g) sc' p) D' (zMp (up nm elt) (.ref D') cenv) (AccL D') (fun fr=>bnd ((Ev gcx call elt).v fr) fun d=>some [d]) where
 acc:=zOz D'
 turn:=fun k it t i fs h hn=>zJE h hn
 frS:=fun k it=>⟨rfl,Around.under_of_weight rfl⟩
 frL:=fun k it=>⟨rfl,rfl,Around.under_of_weight rfl⟩
 emitOk:=fun X fr s ds x Q E hXD F ac hx hlen hQ=>by
  obtain ⟨d,h1,h2⟩:=zAB hx
  cases h2
  unfold zMp
  refine wpAny_bind (se.v A cenv _ fr s _ E d F.cx (by rw [hs]; exact hk) h1 fun v s₁ q r=> ?_)
  have F1:=F.keeps q
  obtain ⟨vs,m,g,rs⟩:=ac
  have g1:=Keeps.get q g
  have r1:zAK (PP Z X O) s₁.heap vs.toList ds:=zAK.keeps rs q
  have hl:vs.size=ds.length:=by rw [←rs.length]; simp
  have hsz:vs.size≤sizeLine:=by
   rw [zAa,List.length_append] at hlen
   rw [hl,sizeLine_eq]; lia
  refine wpAny_bind (wpAny_list_append_plain (hsz:=hsz) ⟨m,g1⟩ fun h' hp hs'=>wpAny_pure ?_)
  obtain ⟨m',g'⟩:=hp
  have kb:zAC (· =D') s₁ {s₁ with heap:=h'}:=zAC.same hs' rfl
  have st: ∀a o,¬PP Z X O a→s₁.heap.get? a=some o→h'.get? a=some o:=fun a o na e=>(hs'.2 a fun q=>na (.inr (.inl (q▸hXD)))).trans e
  refine hQ _ ((zAC.of (O:=(· =D')) q).trans kb fun V V V h=>h) (F1.next (kb.mono fun a V V h=>h▸hXD) (fun V h=>h) fun a h=> ?_) ⟨vs.push v,m',g', ?_⟩
  ·by_cases e:a=D'
   ·exact ⟨_,e▸g'⟩
   ·obtain ⟨o,ho⟩:=F1.fw.live a (.inr (.inl h)); exact ⟨o,kb.get e ho⟩
  ·rw [zAa,Array.toList_push]
   exact (r1.step st fun V V V h=>h).append (.cons (r.step st fun V V V h=>h) .nil)
end
section
variable {prog:Program} {w:World} {G:Heap} {ga:Addr×Addr} {mg:Str→Option Value} {gcx:Nat→Option D} {call:Nat→List D→Option D} {rc:Nat}
theorem zKc {tg:List Nat} {g:E} (h:okG tg g=true) (h0:Nat.blt 0 (Ck g).n=true): ∃t i fs r,g= .cons (.gen t i fs) r:=by
 rcases zGX h with rfl | h
 ·cases h0
 ·exact h
theorem zIH (W:Wd w G ga mg gcx) {elt g:E} {tg:List Nat} {sc':Scope} {p:Pos} (se:SE prog w G ga gcx call rc elt) (hg:zNj prog w G ga gcx call rc g)
  {A:Around} {env:Env} {P:Addr→Prop} {fr:Frm} {s:Shared} {E:Value→Shared→Prop} {d:D} {use:Option (Value→Sem Unit)} {Q:Value→Shared→Prop} (cx:Cx w G ga A env P fr s rc) (hk:(Ck (.lco elt g tg sc' p)).k env.scope=true)
  (h:(Ev gcx call (.lco elt g tg sc' p)).v fr=some d)
  (hQ: ∀(D' C:Addr) (O:Addr→Prop) (s':Shared),Keeps s s'→s.heap.get? D'=none→s.heap.get? C=none→D'≠C→(∃m,s'.heap.Ns C m)→(∃out,d= .list out∧AccL D' out (PP P (· =D') O) s'.heap)→O C→compPost (model prog w) A E use Q (.ref D') C (.ok .next) s'):
  wpAny (model prog w) A (comprehension (up nm (.lco elt g tg sc' p)) sc' env (firstIterPos (upg nm g) p) (newList []) (firstAsync (upg nm g)) (firstIter (upg nm g) env) use) Q E s:=by
 obtain ⟨k1,k2⟩:=zAN (show zAA (zAA (zPt env.scope sc' tg) (zAA (Nat.blt 0 (Ck g).n) (okG tg g) false) false) (zAA ((Ck g).g env.scope (zAm env.scope sc')) ((Ck elt).k (zAm env.scope sc')) false) false=true from hk)
 obtain ⟨k3,k4⟩:=zAN k1
 obtain ⟨k4,k5⟩:=zAN k4
 obtain ⟨k6,k7⟩:=zAN k2
 have so:=zID k3
 obtain ⟨out,h1,h2⟩:=zAB (show bnd ((Ev gcx call g).g fr (zIT (18 :: tg) fr) fun fr=>bnd ((Ev gcx call elt).v fr) fun d=>some [d]) zDk=some d from h)
 obtain ⟨h3,h4⟩:=zAD (show zAA (zAI out) (some (PyData.list out)) none=some d from h2)
 cases h4
 have hlen:=zAH h3
 obtain ⟨t,i,fs,r,rfl⟩:=zKc k5 k4
 obtain ⟨items,hi1,_⟩:=zAB (show bnd ((Ev gcx call i).i fr) (fun items=>zMu items fun d=>bnd ((Ev gcx call t).n d (zIT (18 :: tg) fr)) fun fr=>bnd ((Ev gcx call fs).a .And fr) fun c=>zAA c ((Ev gcx call r).g fr fr fun fr=>bnd ((Ev gcx call elt).v fr) fun d=>some [d]) (some []))=some out from h1)
 refine wpAny_comprehension_free (g:=⟨up nm t,up nm i,ups nm fs,0⟩) (gs:=upg nm r) (cl:=zBX env.cells sc'.names []) rfl (zJd hi1 env) (zDF fun p hp hk=> ?_) so.k2 (fun x hx hl=>zAg so.nd (by rw [←hl]; exact hx)) ?_
 ·obtain ⟨c,v,e,_⟩:=cx.ok.cells p.1 (so.free p.1 (by rw [←hk]; exact hp)).1
  exact ⟨c,e⟩
 ·refine zGr (oAcc:=zBz #[] 0) (Acc:=AccL) (emit:=fun D' cenv=>zMp (up nm elt) (.ref D') cenv) cx so k5 hg k6 rfl h1 hlen (fun s Q E h=>wpAny_newObj_type h (by size_fits)) (fun h=>Heap.get?_push_size _ rfl)
   (fun D' P h e V=>⟨#[],0,e, .nil⟩) (fun s' q=>zFX W (cx.keeps q)) (fun cenv Z O D' hs=>compL se k7 cenv Z O D' hs) fun D' C O s' k n1 n2 ne m ac hO=>hQ D' C O s' k n1 n2 ne m ⟨out,rfl,ac⟩ hO
theorem zNL (W:Wd w G ga mg gcx) {elt g:E} {tg:List Nat} {sc':Scope} {p:Pos} (se:SE prog w G ga gcx call rc elt) (hg:zNj prog w G ga gcx call rc g):SF prog w G ga gcx call rc (.lco elt g tg sc' p):=by
 intro A env P fr s Q E d cx hk h hQ
 show wpAny _ A (comprehension (up nm (.lco elt g tg sc' p)) sc' env (firstIterPos (upg nm g) p) (newList []) (firstAsync (upg nm g)) (firstIter (upg nm g) env) none) Q E s
 refine zIH W se hg (use:=none) cx hk h fun D' C O s' k n1 n2 ne m ⟨out,e,vs,c,g1,r⟩ hO=> ?_
 subst e
 obtain ⟨m,hm⟩:=m
 refine ⟨m,hm,fun h' hs=>hQ _ _ ?_ ⟨D',vs,c,rfl,n1,(hs.2 D' ne).trans g1,r.step (fun a o na e=>(hs.2 a fun q=>na (.inr (.inr (q▸hO)))).trans e) fun a o V x=>x.elim .inl fun x=> .inr (.inl x)⟩⟩
 exact (zAC.of (O:=fun V=>False) k |>.trans (zAC.same (O:=(· =C)) (t:=s'.toks) hs rfl) fun a o ho e=>by rw [e,n2] at ho; cases ho).keeps fun V V V f=>f
theorem zJk (W:Wd w G ga mg gcx) {elt g:E} {tg:List Nat} {sc':Scope} {p:Pos} (se:SE prog w G ga gcx call rc elt) (hg:zNj prog w G ga gcx call rc g):SE prog w G ga gcx call rc (.lco elt g tg sc' p):=by
 refine SE.ofV (fun A env P fr s Q E d cx hk h hQ=> ?_) (fun V=>rfl) (fun V=>rfl) (fun V=>rfl)
 refine zNL W se hg A env P fr s Q E d cx hk h fun v s' k f=>hQ v s' k (f.rdw cx.ok.live fun kvs e=> ?_)
 subst e
 obtain ⟨out,h1,h2⟩:=zAB (show bnd ((Ev gcx call g).g fr (zIT (18 :: tg) fr) fun fr=>bnd ((Ev gcx call elt).v fr) fun d=>some [d]) zDk=some _ from h)
 obtain ⟨h3,h4⟩:=zAD (show zAA (zAI out) (some (PyData.list out)) none=some _ from h2)
 cases h4
end
section
variable {prog:Program} {w:World} {G:Heap} {ga:Addr×Addr} {mg:Str→Option Value} {gcx:Nat→Option D} {call:Nat→List D→Option D} {rc:Nat}
theorem zKA {p q:Program} {es:List DictEntry} {ss:List (Str×Value)} (x:Pairs (PySem.strKind p w) es ss):Pairs (PySem.strKind q w) es ss:=by
 induction x with
 | nil=>exact .nil
 | cons h1 h2 _ ih=>exact .cons h1 h2 ih
theorem zJC {p q:Program} {h:Heap} {a:Addr} {ss:List (Str×Value)} (x:h.DictOf (PySem.strKind p w) a ss):h.DictOf (PySem.strKind q w) a ss:=by
 obtain ⟨o,es,ep,ho,hc,hd,hk,hp,hn⟩:=x
 exact ⟨o,es,ep,ho,hc,hd,hk,zKA hp,hn⟩
abbrev zLH (P:Addr→Prop) (h:Heap) (x:Str×Value) (kv:D×D):Prop:=kv.1= .str x.1∧PyData.strOk x.1=true∧RdW P h x.2 kv.2
theorem zIC {P:Addr→Prop} {h:Heap} {x:Str} {v:D} {vv:Value} (hx:PyData.strOk x=true) (rv:RdW P h vv v): ∀{ss:List (Str×Value)} {kvs:List (D×D)},(ss.map (·.1)).Nodup→Paired (zLH P h) ss kvs→Paired (zLH P h) (stored ss x vv) (zEi (.str x) v kvs)
 | _,_,_, .nil=> .cons ⟨rfl,hx,rv⟩ .nil
 | s :: ss,kv :: kvs,hn, .cons f t=>by
  rw [List.map_cons,List.nodup_cons] at hn
  have ih:=zIC hx rv hn.2 t
  show Paired (zLH P h) _ (zAA (zBS kv.1 (.str x)) ((kv.1,v) :: kvs) (kv :: zEi (.str x) v kvs))
  have e2:zBS kv.1 (.str x)=decide (s.1=x):=by rw [f.1]; rfl
  rw [e2]
  unfold stored at ih ⊢
  by_cases hy:s.1=x
  ·rw [decide_eq_true hy,zAJ,List.any_cons,decide_eq_true hy,Bool.true_or,if_pos rfl,List.map_cons,if_pos hy,map_store_of_not_mem ss x vv (hy▸hn.1)]
   exact .cons ⟨f.1,f.2.1,rv⟩ t
  ·rw [decide_eq_false hy,zAF,List.any_cons,decide_eq_false hy,Bool.false_or]
   by_cases ha:(ss.any fun kv=>decide (kv.1=x))=true
   ·rw [if_pos ha] at ih ⊢
    rw [List.map_cons,if_neg hy]
    exact .cons f ih
   ·rw [if_neg ha] at ih ⊢
    exact .cons f ih
noncomputable def zHR (l:List D) (acc:List (D×D)):Option (List (D×D)):=List.rec (motive:=fun V=>List (D×D)→Option (List (D×D))) some
 (fun d V ih acc=>zFV d (fun l=>zLV l fun k v=>zAA (isS k) (ih (zEi k v acc)) none) none) l acc
theorem zGU (k v:D): ∀(l:List D) (acc r:List (D×D)),zHR l acc=some r→isS k=true→zHR (l++[.tuple [k,v]]) acc=some (zEi k v r)
 | [],acc,r,h,hk=>by
  obtain rfl:=Option.some.inj (show some acc=some r from h)
  show zAA (isS k) (some (zEi k v acc)) none=_
  rw [hk]; rfl
 | d :: l,acc,r,h,hk=>by
  have h:zFV d (fun l'=>zLV l' fun k v=>zAA (isS k) (zHR l (zEi k v acc)) none) none=some r:=h
  induction d using PyData.casesOn with
  | tuple ds=>
   obtain ⟨a,b,rfl,h⟩:=zDz (show zLV ds (fun k v=>zAA (isS k) (zHR l (zEi k v acc)) none)=some r from h)
   obtain ⟨h1,h2⟩:=zAD h
   show zAA (isS a) (zHR (l++[.tuple [k,v]]) (zEi a b acc)) none=_
   rw [h1]; exact zGU k v l _ r h2 hk
  | _=>cases h
theorem zOd {k:D} (h:isS k=true): ∃x,k= .str x:=by cases k <;> first | exact ⟨_,rfl⟩ | cases h
def AccD (w:World) (D':Addr) (ds:List D) (P:Addr→Prop) (h:Heap):Prop:=
 (D'==sysModules)=false∧∃kvs,zHR ds []=some kvs∧kvs.length≤ds.length∧SD w P h D' kvs
theorem zPA (D':Addr):zPG D' (AccD w D') where
 step:=fun ds P P' h h' ⟨h1,kvs,h2,h3,h4⟩ hD hk hw=>⟨h1,kvs,h2,h3,h4.step hD hk hw⟩
theorem zIB (k v:D): ∀l:List (D×D),(zEi k v l).length≤l.length + 1
 | []=>Nat.le_refl _
 | p :: l=>by
  show (zAA (zBS p.1 k) ((p.1,v) :: l) (p :: zEi k v l)).length≤_
  cases zBS p.1 k with
  | true=>simp [zAA]
  | false=>simpa [zAA] using zIB k v l
theorem compD {A:Around} {ke ve g:E} {sc':Scope} {tg:List Nat} {p:Pos} {sc:Scope} (sk:SE prog w G ga gcx call rc ke) (sv:SE prog w G ga gcx call rc ve) (hk:(Ck ke).k (zAm sc sc')=true) (hv:(Ck ve).k (zAm sc sc')=true)
  (cenv:Env) (Z O:Addr→Prop) (D':Addr) (hs:cenv.scope=zAm sc sc'):
  zNB prog w G ga A cenv Z O tg rc (.DictComp (up nm ke) (up nm ve) (upg nm g) sc' p) D' (zMq (up nm ke) (up nm ve) (.ref D') cenv) (AccD w D') (fun fr=>bnd ((Ev gcx call ke).v fr) fun k=>bnd ((Ev gcx call ve).v fr) fun v=>zAA (isS k) (some [.tuple [k,v]]) none) where
 acc:=zPA D'
 turn:=fun k it t i fs h hn=>zJF h hn
 frS:=fun k it=>⟨rfl,Around.under_of_weight rfl⟩
 frL:=fun k it=>⟨rfl,rfl,Around.under_of_weight rfl⟩
 emitOk:=fun X fr s ds x Q E hXD F ac hx hlen hQ=>by
  obtain ⟨k,h1,hx⟩:=zAB hx
  obtain ⟨v,h2,hx⟩:=zAB hx
  obtain ⟨h3,h4⟩:=zAD hx
  cases h4
  obtain ⟨y,rfl⟩:=zOd h3
  unfold zMq
  refine wpAny_bind (sk.v A cenv _ fr s _ E _ F.cx (by rw [hs]; exact hk) h1 fun vk s₁ q1 rk=> ?_)
  refine wpAny_bind (wpAny_holding (sv.v A cenv _ fr s₁ _ E v (F.keeps q1).cx (by rw [hs]; exact hv) h2 fun vv s₂ q2 rv=> ?_))
  have F2:=(F.keeps q1).keeps q2
  have q:=Keeps.trans q1 q2
  obtain ⟨hS,kvs,hp,hl,ss,hd,pr⟩:=ac
  have hd2: ∀prog,s₂.heap.DictOf (PySem.strKind prog w) D' ss:=fun p=>Heap.DictOf.at (hd p) fun o e=>Keeps.get q e
  have rk2:=RdW.keeps rk q2
  have hok:PyData.strOk y=true:=by cases rk2 with | str _ _ h=>exact h
  obtain ⟨tk,rfl⟩:=rk2.strInv
  have hsl:ss.length≤sizeLine:=by
   rw [pr.length,sizeLine_eq]
   rw [zAa,List.length_append] at hlen
   lia
  have hn:(ss.map (·.1)).Nodup:=by obtain ⟨_,_,_,_,_,_,_,_,hn⟩:=hd2 prog; exact hn
  refine wpAny_bind (wpAny_standAt (wpAny_holding (wpAny_dictSet_pairs (knd:=PySem.strKind prog w) (k:=y) (hsz:=hsl) (show (PySem.strKind prog w).is y (.str y tk)=true by simp [PySem.strKind,Value.isStrOf]) (hd2 prog) fun h' hm hs'=> ?_)))
  have kb:zAC (· =D') s₂ {s₂ with heap:=h',toks:=s₂.toks + 1}:=zAC.same hs' rfl
  have st: ∀a o,¬PP Z X O a→s₂.heap.get? a=some o→h'.get? a=some o:=fun a o na e=>(hs'.2 a fun q=>na (.inr (.inl (q▸hXD)))).trans e
  have pr2:Paired (zLH (PP Z X O) h') ss kvs:=zLJ pr fun V V f=>⟨f.1,f.2.1,RdW.step st (fun V V V h=>h) (RdW.keeps f.2.2 q)⟩
  refine hQ _ ((zAC.of (O:=(· =D')) q).trans kb fun V V V h=>h) (F2.next (kb.mono fun a V V h=>h▸hXD) (fun V h=>h) fun a h=> ?_) ⟨hS,zEi (.str y) v kvs, ?_, ?_,stored ss y vv,fun p=>zJC hm,zIC hok (rv.step st fun V V V h=>h) hn pr2⟩
  ·by_cases e:a=D'
   ·obtain ⟨o,_,_,ho,_⟩:=hm; exact ⟨o,e▸ho⟩
   ·obtain ⟨o,ho⟩:=F2.fw.live a (.inr (.inl h)); exact ⟨o,kb.get e ho⟩
  ·rw [zAa]; exact zGU _ _ _ _ _ hp rfl
  ·have:=zIB (.str y) v kvs
   rw [zAa,List.length_append,List.length_singleton]; lia
theorem zPj (W:Wd w G ga mg gcx) {ke ve g:E} {tg:List Nat} {sc':Scope} {p:Pos} (sk:SE prog w G ga gcx call rc ke) (sv:SE prog w G ga gcx call rc ve) (hg:zNj prog w G ga gcx call rc g):SE prog w G ga gcx call rc (.dco ke ve g tg sc' p):=by
 refine ⟨fun A env P fr s Q E d cx hk h hQ=>(by cases (show none=some d from h)),fun A env P fr s Q E d cx hk h hQ=> ?_,fun A env P fr s Q E c cx hk h hQ=>(by cases (show none=some c from h))⟩
 obtain ⟨k1,k2⟩:=zAN (show zAA (zAA (zPt env.scope sc' tg) (zAA (Nat.blt 0 (Ck g).n) (okG tg g) false) false) (zAA ((Ck g).g env.scope (zAm env.scope sc')) (zAA ((Ck ke).k (zAm env.scope sc')) ((Ck ve).k (zAm env.scope sc')) false) false) false=true from hk)
 obtain ⟨k3,k4⟩:=zAN k1
 obtain ⟨k4,k5⟩:=zAN k4
 obtain ⟨k6,k7⟩:=zAN k2
 obtain ⟨k7,k8⟩:=zAN k7
 have so:=zID k3
 obtain ⟨out,h1,h2⟩:=zAB (show bnd ((Ev gcx call g).g fr (zIT (18 :: tg) fr) fun fr=>bnd ((Ev gcx call ke).v fr) fun k=>bnd ((Ev gcx call ve).v fr) fun v=>zAA (isS k) (some [.tuple [k,v]]) none) (fun l=>zAA (zAI l) (bnd (zOK l) fun kvs=>some (.dict kvs)) none)=some d from h)
 obtain ⟨h3,h2⟩:=zAD h2
 have hlen:=zAH h3
 obtain ⟨kvs,h4,h5⟩:=zAB h2
 cases h5
 obtain ⟨t,i,fs,r,rfl⟩:=zKc k5 k4
 obtain ⟨items,hi1,_⟩:=zAB (show bnd ((Ev gcx call i).i fr) (fun items=>zMu items fun d=>bnd ((Ev gcx call t).n d (zIT (18 :: tg) fr)) fun fr=>bnd ((Ev gcx call fs).a .And fr) fun c=>zAA c ((Ev gcx call r).g fr fr fun fr=>bnd ((Ev gcx call ke).v fr) fun k=>bnd ((Ev gcx call ve).v fr) fun v=>zAA (isS k) (some [.tuple [k,v]]) none) (some []))=some out from h1)
 rw [arm_eval_DictComp]
 show wpAny _ A (comprehension (up nm (.dco ke ve (.cons (.gen t i fs) r) tg sc' p)) sc' env _ _ _ _ none) Q E s
 refine wpAny_comprehension_free (g:=⟨up nm t,up nm i,ups nm fs,0⟩) (gs:=upg nm r) (cl:=zBX env.cells sc'.names []) rfl (zJd hi1 env) (zDF fun p hp hk=> ?_) so.k2 (fun x hx hl=>zAg so.nd (by rw [←hl]; exact hx)) ?_
 ·obtain ⟨c,v,e,_⟩:=cx.ok.cells p.1 (so.free p.1 (by rw [←hk]; exact hp)).1
  exact ⟨c,e⟩
 ·refine zGr (oAcc:={cls:= .type "dict",data:= .dict #[]}) (Acc:=AccD w) (emit:=fun D' cenv=>zMq (up nm ke) (up nm ve) (.ref D') cenv) cx so k5 hg k6 rfl h1 hlen (fun s Q E h=>wpAny_newObj_type h (by size_fits)) (fun h=>Heap.get?_push_size _ rfl)
   (fun D' P h e hs=>⟨hs,[],rfl,Nat.le_refl _,[],fun p=> ?_, .nil⟩) (fun s' q=>zFX W (cx.keeps q)) (fun cenv Z O D' hs=>compD sk sv k7 k8 cenv Z O D' hs) fun D' C O s' k n1 n2 ne m ac hO=> ?_
  ·exact ⟨_, #[],0,e,⟨rfl,rfl,rfl⟩,rfl,fun V he=>by simp at he, .nil,List.nodup_nil⟩
  ·obtain ⟨m,hm⟩:=m
   obtain ⟨hS,kvs',e1,_,sd⟩:=ac
   rw [show zHR out []=zOK out from rfl,h4] at e1
   cases e1
   refine ⟨m,hm,fun h' hs=>hQ _ _ ?_ (.inr ⟨D',rfl,hS, .inl (sd.step (fun o e=>(hs.2 D' ne).trans e) (fun a o na e=>(hs.2 a fun q=>na (.inr (.inr (q▸hO)))).trans e) fun a o V x=> .inl x)⟩)⟩
   exact (zAC.of (O:=fun V=>False) k |>.trans (zAC.same (O:=(· =C)) (t:=s'.toks) hs rfl) fun a o ho e=>by rw [e,n2] at ho; cases ho).keeps fun V V V f=>f
end
noncomputable def frzS (sl:Slot):Slot:=Slot.rec (motive:=fun V=>Slot) .val frzD sl
theorem zCR (x y:Nat): ∀l:Frm,zAE y (frz1 x l)=if y=x then (zAE y l).map frzS else zAE y l
 | []=>by show none=_; split <;> rfl
 | p :: r=>by
  have fc: ∀(q:Nat×Slot) (l:Frm),zAE y (q :: l)=zAA (Nat.beq q.1 y) (some q.2) (zAE y l):=fun V V=>rfl
  show zAE y (zAA (Nat.beq p.1 x) ((x,frzS p.2) :: r) (p :: frz1 x r))=_
  rw [zEx]
  by_cases hp:p.1=x
  ·rw [decide_eq_true hp,zAJ,fc,fc,zEx,zEx,hp]
   by_cases h:y=x
   ·rw [if_pos h,decide_eq_true h.symm,zAJ,zAJ]; rfl
   ·rw [if_neg h,decide_eq_false (fun e=>h e.symm),zAF,zAF]
  ·rw [decide_eq_false hp,zAF,fc,fc,zCR x y r,zEx]
   by_cases h:y=x
   ·rw [if_pos h,if_pos h,h,decide_eq_false hp,zAF,zAF]
   ·rw [if_neg h,if_neg h]
section
variable {w:World} {G:Heap} {ga:Addr×Addr} {A:Around} {env:Env} {Z X O:Addr→Prop} {fr:Frm} {s s':Shared} {n:Nat}
theorem FrW.frz1 (x:Nat) (F:FrW w G env Z X O none fr s): ∃O',(∀a,O' a→O a)∧FrW w G env Z X O' none (frz1 x fr) s:=by
 by_cases hown: ∃xs,zAE x fr=some (.own (.list xs))∧(kN env.scope x=some .local∨kN env.scope x=some .cell)
 ·obtain ⟨xs,hx,hkx⟩:=hown
  obtain ⟨m,hn,hv,hp⟩:=F.names
  obtain ⟨v,hh,⟨⟨a,vs,c,ev,g,rs⟩,a',ea',hOZ,hOa,hL⟩⟩:=hv x _ hx hkx
  subst ev
  cases ea'
  have hOa:=hOa rfl
  have hsub: ∀b,PP Z X (fun b=>O b∧b≠a) b→PP Z X O b:=fun b h=>h.imp id (·.imp id (·.1))
  refine ⟨fun b=>O b∧b≠a,fun b h=>h.1,⟨fun b o e=>⟨(F.glob b o e).1,fun y=>(F.glob b o e).2 (hsub b y)⟩,fun b h=>F.live b (hsub b h),fun b h=>F.dO b h.1,F.dX,F.kind,⟨F.loc,fun e=>hL e.symm⟩,F.cells,fun m c e=> ?_,F.ccell,F.cinj,fun y c h1 h2 h3=>⟨F.cw y c h1 h2 h3, ?_⟩,
   m,hn,fun y sl e hk=> ?_,fun ht y z dy dz p u hyz e1 e2 h1 h2=> ?_⟩⟩
  ·rcases F.cset m c e with h | h
   ·refine .inl ⟨h,fun q=> ?_⟩
    subst q
    obtain ⟨v,o,ho,hd⟩:=F.ccell m c e
    rw [g] at ho; cases ho; cases hd
   ·exact .inr h
  ·intro q
   subst q
   obtain ⟨v,o,ho,hd⟩:=F.ccell _ c h3
   rw [g] at ho; cases ho; cases hd
  ·rw [zCR] at e
   by_cases hyx:y=x
   ·subst hyx
    rw [if_pos rfl,hx] at e
    cases e
    refine ⟨_,hh, ?_⟩
    show RdW (PP Z X fun b=>O b∧b≠a) s.heap (.ref a) (.list xs)
    refine .list g (fun y=> ?_) (rs.step (fun V V V e=>e) fun b V V h=>hsub b h)
    rcases y with y | y | y
    ·exact (F.dO a hOa).1 y
    ·exact (F.dO a hOa).2 y
    ·exact y.2 rfl
   ·rw [if_neg hyx] at e
    obtain ⟨u,h1,h2⟩:=hv y sl e hk
    refine ⟨u,h1, ?_⟩
    induction sl with
    | val d=>exact RdW.step (fun V V V e=>e) (fun b V V h=>hsub b h) (show RdW (PP Z X O) s.heap u d from h2)
    | own d=>
     obtain ⟨q,b,eb,h3,h4,h5⟩:=h2
     have hba:b≠a:=fun q=>hp rfl y x d (.list xs) u (.ref a) hyx e hx h1 hh (by rw [eb,q])
     exact ⟨q.step (fun V V V e=>e) (fun V V V e=>e) fun b V V h=>hsub b h,b,eb,h3.imp (fun h=>⟨h,hba⟩) id,fun e=>⟨h4 e,hba⟩,h5⟩
  ·have key: ∀y d,zAE y (Mine.frz1 x fr)=some (.own d)→zAE y fr=some (.own d):=fun y d e=>by
    rw [zCR] at e
    by_cases hyx:y=x
    ·rw [if_pos hyx,hyx,hx] at e; cases e
    ·rw [if_neg hyx] at e; exact e
   exact hp ht y z dy dz p u hyz (key y _ e1) (key z _ e2) h1 h2
 ·refine ⟨O,fun V h=>h, ?_⟩
  obtain ⟨m,hn,hv,hp⟩:=F.names
  have key: ∀y sl,zAE y (Mine.frz1 x fr)=some sl→(kN env.scope y=some .local∨kN env.scope y=some .cell)→zAE y fr=some sl:=fun y sl e hk=>by
   rw [zCR] at e
   by_cases hyx:y=x
   ·subst hyx
    rw [if_pos rfl] at e
    cases hf:zAE y fr with
    | none=>rw [hf] at e; cases e
    | some sl'=>
     rw [hf] at e
     induction sl' with
     | val d=>cases e; rfl
     | own d=>
      induction d using PyData.casesOn with
      | list xs=>exact absurd ⟨xs,hf,hk⟩ hown
      | _=>cases e; rfl
   ·rw [if_neg hyx] at e; exact e
  exact {F with names:=⟨m,hn,fun y sl e hk=>hv y sl (key y sl e hk) hk,fun ht y z dy dz p u hyz e1 e2 h1 h2=>hp ht y z dy dz p u hyz (key y _ e1 h1.kind) (key z _ e2 h2.kind) h1 h2⟩}
theorem FC.sub {O':Addr→Prop} {fr':Frm} (x:FC w G ga A env Z X O none fr s n) (h: ∀a,O' a→O a) (f:FrW w G env Z X O' none fr' s):FC w G ga A env Z X O' none fr' s n:=
 ⟨f,x.hand,fun b hb y=>x.hp b hb (y.imp id (·.imp id (h b))),x.gl,x.dep,x.un⟩
theorem FC.frz (F:FC w G ga A env Z X O none fr s n): ∀z:List Nat,∃O',(∀a,O' a→O a)∧FC w G ga A env Z X O' none (frz z fr) s n
 | []=>⟨O,fun V h=>h,F⟩
 | x :: z=>by
  obtain ⟨O1,h1,F1⟩:=F.frz z
  obtain ⟨O2,h2,F2⟩:=F1.fw.frz1 x
  exact ⟨O2,fun a h=>h1 a (h2 a h),F1.sub h2 F2⟩
theorem FC.adopt {A':Addr→Prop} (F:FC w G ga A env Z X O none fr s n) (k:Keeps s s') (hn: ∀a,A' a→s.heap.get? a=none) (hl: ∀a,A' a→∃o,s'.heap.get? a=some o):FC w G ga A env Z X (fun a=>O a∨A' a) none fr s' n:=by
 have np: ∀a,PP Z X O a→¬A' a:=fun a h q=>by obtain ⟨o,ho⟩:=F.fw.live a h; rw [hn a q] at ho; cases ho
 refine ⟨F.fw.grow k (fun a o ho h=> ?_) (fun a h=> ?_) (fun a h=>⟨fun z=> ?_,fun z=> ?_⟩) F.fw.dX (fun V h=> .inl h) fun V h=>h,(F.keeps k).hand,fun b hb h=> ?_,F.gl,F.dep,F.un⟩
 ·rcases h with h | h | h | h
  ·exact .inl h
  ·exact .inr (.inl h)
  ·exact .inr (.inr h)
  ·rw [hn a h] at ho; cases ho
 ·rcases h with h | h | h | h
  ·obtain ⟨o,ho⟩:=F.fw.live a (.inl h); exact ⟨o,Keeps.get k ho⟩
  ·obtain ⟨o,ho⟩:=F.fw.live a (.inr (.inl h)); exact ⟨o,Keeps.get k ho⟩
  ·obtain ⟨o,ho⟩:=F.fw.live a (.inr (.inr h)); exact ⟨o,Keeps.get k ho⟩
  ·exact hl a h
 ·exact h.elim (fun h=>(F.fw.dO a h).1 z) fun h=>np a (.inl z) h
 ·exact h.elim (fun h=>(F.fw.dO a h).2 z) fun h=>np a (.inr (.inl z)) h
 ·have hlive: ∃o,s.heap.get? b=some o:=by
   rcases F.hand with hn | ⟨a,o,vs,e,g,_⟩
   ·unfold zAQ at hb; rw [hn] at hb; cases hb
   ·unfold zAQ at hb; rw [e] at hb
    have:b=a:=by simpa using hb
    subst this; exact ⟨o,g⟩
  obtain ⟨o,ho⟩:=hlive
  rcases h with h | h | h | h
  ·exact F.hp b hb (.inl h)
  ·exact F.hp b hb (.inr (.inl h))
  ·exact F.hp b hb (.inr (.inr h))
  ·rw [hn b h] at ho; cases ho
end
section
variable {w:World} {G:Heap} {ga:Addr×Addr} {A:Around} {env:Env} {P:Addr→Prop} {fr:Frm} {s s':Shared} {n:Nat}
theorem zAG.liveAt {h:Heap} (x:zAG A h) {b:Addr} (hb:b∈zAQ A): ∃o,h.get? b=some o:=by
 rcases x with hn | ⟨a,o,vs,e,g,_⟩
 ·unfold zAQ at hb; rw [hn] at hb; cases hb
 ·unfold zAQ at hb; rw [e] at hb
  have:b=a:=by simpa using hb
  subst this; exact ⟨o,g⟩
theorem Cx.adopt {A':Addr→Prop} (x:Cx w G ga A env P fr s n) (k:Keeps s s') (hn: ∀a,A' a→s.heap.get? a=none) (hl: ∀a,A' a→∃o,s'.heap.get? a=some o):Cx w G ga A env (fun a=>P a∨A' a) fr s' n:=by
 have hw: ∀a o,s.heap.get? a=some o→(P a∨A' a)→P a:=fun a o ho h=>h.elim id fun h=>by rw [hn a h] at ho; cases ho
 have kk: ∀a o,s.heap.get? a=some o→s'.heap.get? a=some o:=fun a o e=>Keeps.get k e
 refine ⟨⟨fun a o e=>⟨kk _ _ (x.ok.glob a o e).1,fun h=>(x.ok.glob a o e).2 (hw a o (x.ok.glob a o e).1 h)⟩,fun a h=> ?_,x.ok.kind, ?_,fun m hm=> ?_,fun m c e=> .inl (x.ok.cset m c e),x.ok.cinj⟩,x.hand.keep kk,fun b hb h=> ?_,x.gl,x.dep,x.un⟩
 ·rcases h with h | h
  ·obtain ⟨o,e⟩:=x.ok.live a h; exact ⟨o,kk _ _ e⟩
  ·exact hl a h
 ·obtain ⟨m,hm,hv⟩:=x.ok.names
  refine ⟨m, ?_,fun y sl e hy=> ?_⟩
  ·obtain ⟨o,es,ep,ho,r⟩:=hm; exact ⟨o,es,ep,kk _ _ ho,r⟩
  ·obtain ⟨v,h1,h2⟩:=hv y sl e hy
   refine ⟨v,h1.keep kk, ?_⟩
   induction sl with
   | val d=>exact RdW.step (fun a o V=>kk a o) hw (show RdW P s.heap v d from h2)
   | own d=>exact ⟨h2.1.step (fun a o V=>kk a o) (fun a o V=>kk a o) hw,fun a e=> .inl (h2.2 a e)⟩
 ·obtain ⟨c,v,e,o,ho,hd⟩:=x.ok.cells m hm
  exact ⟨c,v,e,o,kk _ _ ho,hd⟩
 ·obtain ⟨o,ho⟩:=x.hand.liveAt hb
  exact x.hp b hb (hw b o ho h)
end
noncomputable def zAv:List Bool→List D→List Slot
 | [],ds=>ds.map .val
 | _,[]=>[]
 | o :: os,d :: ds=>zBZ o d :: zAv os ds
inductive zDn (w:World) (PA:Addr→Prop) (h:Heap):List Addr→List Value→List Slot→Prop
 | nil:zDn w PA h [] [] []
 | val {as v vs d ss}:RdW PA h v d→zDn w PA h as vs ss→zDn w PA h as (v :: vs) (.val d :: ss)
 | own {a as vs d ss}:zHE w PA h (.ref a) d→a ∉ as→zDn w PA h as vs ss→zDn w PA h (a :: as) (.ref a :: vs) (.own d :: ss)
theorem zDn.mono {w:World} {PA PB:Addr→Prop} {h:Heap} {as:List Addr} {vs:List Value} {ss:List Slot} (x:zDn w PA h as vs ss) (e: ∀a,PB a ↔ PA a):zDn w PB h as vs ss:=by
 have:PB=PA:=funext fun a=>propext (e a)
 rw [this]; exact x
section
variable {prog:Program} {w:World} {G:Heap} {ga:Addr×Addr} {mg:Str→Option Value} {gcx:Nat→Option D} {call:Nat→List D→Option D} {rc:Nat}
variable (prog w G ga gcx call rc) in
def SLo (e:E):Prop:=∀(pos:Pos) (os:List Bool) (A:Around) (env:Env) (P:Addr→Prop) (fr:Frm) (s:Shared) (Q:List Value→Shared→Prop) (E:Value→Shared→Prop) (ds:List D),Cx w G ga A env P fr s rc→(Ck e).k env.scope=true→
  (Ev gcx call e).lo os fr=some ds→(∀vs s' as,Keeps s s'→(∀a∈as,s.heap.get? a=none)→(∀a∈as,∃o,s'.heap.get? a=some o)→zDn w (fun x=>P x∨x∈as) s'.heap as vs (zAv os ds)→Q vs s')→
  wpAny (model prog w) A (spliced (backTo pos (starEach (ups nm e) env))) Q E s
theorem SLo.vac {e:E} (h:(Ev gcx call e).lo=noLo):SLo prog w G ga gcx call rc e:=by
 intro pos os A env P fr s Q E ds cx hk hh hQ
 rw [h] at hh; cases hh
theorem zOB:SLo prog w G ga gcx call rc .nil:=by
 intro pos os A env P fr s Q E ds cx hk h hQ
 have h:some []=some ds:=h
 cases h
 refine Calls.spliced_nil (hQ [] s [] (Keeps.refl s) (fun V h=>by cases h) (fun V h=>by cases h) ?_)
 cases os <;> exact .nil
theorem zLf {h t:E} (sh:SE prog w G ga gcx call rc h) (sf:SF prog w G ga gcx call rc h) (st:SLo prog w G ga gcx call rc t):SLo prog w G ga gcx call rc (.cons h t):=by
 intro pos os A env P fr s Q E ds cx hk hh hQ
 obtain ⟨k1,k2⟩:=zBH hk
 obtain ⟨d,h1,hh⟩:=zAB (show bnd (onL os ((Ev gcx call h).v fr) fun o V=>zAA o ((Ev gcx call h).f fr) ((Ev gcx call h).v fr)) (fun d=>bnd ((Ev gcx call t).lo (onL os [] fun V os=>os) fr) fun ds=>some (d :: ds))=some ds from hh)
 obtain ⟨dr,h2,hh⟩:=zAB hh
 cases hh
 have nr: ∀x,h≠ .raw x:=by
  induction os using List.casesOn with
  | nil=>exact zAk h1
  | cons o os=>
   have h1:zAA o ((Ev gcx call h).f fr) ((Ev gcx call h).v fr)=some d:=h1
   induction o with
   | true=>intro x e; subst e; cases h1
   | false=>exact zAk h1
 rw [zAV nr,zAP]
 have plain:(Ev gcx call h).v fr=some d→(zAv os (d :: dr)= .val d :: zAv (onL os [] fun V os=>os) dr)→wpAny (model prog w) A (spliced ((false,eval (up nm h) env) :: backTo pos (starEach (ups nm t) env))) Q E s:=fun hv hs=>
  Calls.spliced_cons (sh.v A env P fr s _ E d cx k1 hv fun v s₁ q1 r1=>st pos _ A env P fr s₁ _ E dr (cx.keeps q1) k2 h2 fun vs s₂ as q2 n2 l2 r2=>hQ (v :: vs) s₂ as (Keeps.trans q1 q2) (fun a ha=>by
   cases e:s.heap.get? a with
   | none=>rfl
   | some o=>have:=Keeps.get q1 e; rw [n2 a ha] at this; cases this) l2 (by
    rw [hs]
    exact .val (r1.step (fun a o V e=>Keeps.get q2 e) fun a o ho h=>h.elim id fun h=>by rw [n2 a h] at ho; cases ho) r2))
 induction os using List.casesOn with
 | nil=>exact plain h1 (by cases dr <;> rfl)
 | cons o os=>
  have h1:zAA o ((Ev gcx call h).f fr) ((Ev gcx call h).v fr)=some d:=h1
  have h2:(Ev gcx call t).lo os fr=some dr:=h2
  induction o with
  | false=>exact plain h1 rfl
  | true=>
   have h1:(Ev gcx call h).f fr=some d:=h1
   refine Calls.spliced_cons (sf A env P fr s _ E d cx k1 h1 fun v s₁ q1 f1=> ?_)
   have own: ∀a,v= .ref a→s.heap.get? a=none→zHE w (fun x=>P x∨x=a) s₁.heap (.ref a) d→zBZ true d= .own d→(∃o,s₁.heap.get? a=some o)→wpAny (model prog w) A (spliced (backTo pos (starEach (ups nm t) env))) (fun vs s₂=>Q (v :: vs) s₂) E s₁:=fun a ev na hown hsl hal=>by
    subst ev
    refine st pos os A env _ fr s₁ _ E dr (cx.adopt (A':=(· =a)) q1 (fun b e=>e▸na) fun b e=>e▸hal) k2 h2 fun vs s₂ as q2 n2 l2 r2=> ?_
    have haa:a ∉ as:=fun h=>by obtain ⟨o,ho⟩:=hal; rw [n2 a h] at ho; cases ho
    refine hQ (.ref a :: vs) s₂ (a :: as) (Keeps.trans q1 q2) (fun b hb=> ?_) (fun b hb=> ?_) ?_
    ·rcases List.mem_cons.mp hb with rfl | hb
     ·exact na
     ·cases e:s.heap.get? b with
      | none=>rfl
      | some o=>have:=Keeps.get q1 e; rw [n2 b hb] at this; cases this
    ·rcases List.mem_cons.mp hb with rfl | hb
     ·obtain ⟨o,ho⟩:=hal; exact ⟨o,Keeps.get q2 ho⟩
     ·exact l2 b hb
    ·show zDn w _ _ _ _ (zBZ true d :: zAv os dr)
     rw [hsl]
     refine .own (hown.step (fun b o V e=>Keeps.get q2 e) (fun b o V e=>Keeps.get q2 e) fun b o ho h=> ?_) haa (r2.mono fun b=>by simp [or_assoc])
     rcases h with h | h
     ·exact .inl h
     ·rcases List.mem_cons.mp h with rfl | h
      ·exact .inr rfl
      ·rw [n2 b h] at ho; cases ho
   have val:RdW P s₁.heap v d→zBZ true d= .val d→wpAny (model prog w) A (spliced (backTo pos (starEach (ups nm t) env))) (fun vs s₂=>Q (v :: vs) s₂) E s₁:=fun r1 hsl=>
    st pos os A env P fr s₁ _ E dr (cx.keeps q1) k2 h2 fun vs s₂ as q2 n2 l2 r2=>hQ (v :: vs) s₂ as (Keeps.trans q1 q2) (fun a ha=>by
     cases e:s.heap.get? a with
     | none=>rfl
     | some o=>have:=Keeps.get q1 e; rw [n2 a ha] at this; cases this) l2 (by
      show zDn w _ _ _ _ (zBZ true d :: zAv os dr)
      rw [hsl]
      exact .val (r1.step (fun a o V e=>Keeps.get q2 e) fun a o ho h=>h.elim id fun h=>by rw [n2 a h] at ho; cases ho) r2)
   induction d using PyData.casesOn with
   | list xs=>
    obtain ⟨a,vs,c,ev,na,g,r⟩:=f1
    exact own a ev na ⟨a,vs,c,rfl,g,r⟩ rfl ⟨_,g⟩
   | dict kvs=>
    obtain ⟨a,ev,na,r⟩:=f1
    exact own a ev na ⟨a,rfl,r⟩ rfl (let ⟨o,_,_,ho,_⟩:=r.at; ⟨o,ho⟩)
   | _=>exact val f1 rfl
end
section
variable {prog:Program} {w:World} {G:Heap} {ga:Addr×Addr} {mg:Str→Option Value} {gcx:Nat→Option D} {call:Nat→List D→Option D} {rc:Nat}
structure zEk (prog:Program) (w:World) (G:Heap) (ga:Addr×Addr) (gcx:Nat→Option D) (call:Nat→List D→Option D) (rc:Nat) (e:E):Prop where
 se:SE prog w G ga gcx call rc e
 sl:SL prog w G ga gcx call rc e
 sc:SC prog w G ga gcx call rc e
 ss:zJO prog w G ga gcx call rc e
 so:SOp prog w G ga gcx call rc e
 sf:SF prog w G ga gcx call rc e
 slo:SLo prog w G ga gcx call rc e
 si:SI prog w G ga gcx call rc e
 st:ST prog w G ga gcx call rc e
 g1:GOk1 prog w G ga gcx call rc e
 gs:zNj prog w G ga gcx call rc e
 sn:SN prog w G ga gcx call e
 snl:SNl prog w G ga gcx call e
theorem zEo (W:Wd w G ga mg gcx) (hc:zAW prog w G mg call rc) (hsort:zFN prog w): ∀e:E,zEk prog w G ga gcx call rc e:=by
 intro e
 induction e with
 | nil=>exact {
   se:=SE.vac rfl rfl rfl,sl:=zNK,sc:=SC.vac rfl,ss:=zJO.vac rfl,so:=zPZ,sf:=SF.vac rfl,slo:=zOB,si:=SI.vac rfl,st:=zPQ,g1:=trivial,gs:=trivial,sn:=SN.vac rfl,snl:=zOA}
 | cons h t ih it=>exact {
   se:=SE.vac rfl rfl rfl,sl:=zHL ih.se it.sl,sc:=zOF ih.se it.sc,ss:=zJO.vac rfl,so:=zNz ih.se,sf:=SF.vac rfl,slo:=zLf ih.se ih.sf it.slo,si:=SI.vac rfl,st:=zNq ih.se it.st,g1:=trivial,gs:=⟨ih.g1,it.gs⟩,sn:=SN.vac rfl,snl:=zLd ih.sn it.snl}
 | cst c k p=>exact {
   se:=zJn,sl:=SL.vac rfl rfl rfl rfl rfl,sc:=SC.vac rfl,ss:=zAX (zJn) (fun V V=>rfl) (fun V V=>rfl),so:=SOp.vac rfl,sf:=SF.vac rfl,slo:=SLo.vac rfl,si:=SI.ofV (zJn) (fun V=>rfl),st:=ST.vac rfl,g1:=trivial,gs:=trivial,sn:=SN.vac rfl,snl:=SNl.vac rfl}
 | var x p=>exact {
   se:=zJe,sl:=SL.vac rfl rfl rfl rfl rfl,sc:=SC.vac rfl,ss:=zAX (zJe) (fun V V=>rfl) (fun V V=>rfl),so:=SOp.vac rfl,sf:=SF.vac rfl,slo:=SLo.vac rfl,si:=SI.ofV (zJe) (fun V=>rfl),st:=ST.vac rfl,g1:=trivial,gs:=trivial,sn:=zPa,snl:=SNl.vac rfl}
 | glb x p=>exact {
   se:=zJm W,sl:=SL.vac rfl rfl rfl rfl rfl,sc:=SC.vac rfl,ss:=zAX (zJm W) (fun V V=>rfl) (fun V V=>rfl),so:=SOp.vac rfl,sf:=SF.vac rfl,slo:=SLo.vac rfl,si:=SI.ofV (zJm W) (fun V=>rfl),st:=ST.vac rfl,g1:=trivial,gs:=trivial,sn:=SN.vac rfl,snl:=SNl.vac rfl}
 | bin a op b p ia ib=>exact {
   se:=zJq ia.se ib.se,sl:=SL.vac rfl rfl rfl rfl rfl,sc:=SC.vac rfl,ss:=zAX (zJq ia.se ib.se) (fun V V=>rfl) (fun V V=>rfl),so:=SOp.vac rfl,sf:=zPg ia.se ib.se,slo:=SLo.vac rfl,si:=SI.ofV (zJq ia.se ib.se) (fun V=>rfl),st:=ST.vac rfl,g1:=trivial,gs:=trivial,sn:=SN.vac rfl,snl:=SNl.vac rfl}
 | neg a p ia=>exact {
   se:=zJh ia.se,sl:=SL.vac rfl rfl rfl rfl rfl,sc:=SC.vac rfl,ss:=zAX (zJh ia.se) (fun V V=>rfl) (fun V V=>rfl),so:=SOp.vac rfl,sf:=SF.vac rfl,slo:=SLo.vac rfl,si:=SI.ofV (zJh ia.se) (fun V=>rfl),st:=ST.vac rfl,g1:=trivial,gs:=trivial,sn:=SN.vac rfl,snl:=SNl.vac rfl}
 | nott a p ia=>exact {
   se:=zHM ia.se,sl:=SL.vac rfl rfl rfl rfl rfl,sc:=SC.vac rfl,ss:=zAX (zHM ia.se) (fun V V=>rfl) (fun V V=>rfl),so:=SOp.vac rfl,sf:=SF.vac rfl,slo:=SLo.vac rfl,si:=SI.ofV (zHM ia.se) (fun V=>rfl),st:=ST.vac rfl,g1:=trivial,gs:=trivial,sn:=SN.vac rfl,snl:=SNl.vac rfl}
 | ite t b o p it ib io=>exact {
   se:=zJl it.se ib.se io.se,sl:=SL.vac rfl rfl rfl rfl rfl,sc:=SC.vac rfl,ss:=zAX (zJl it.se ib.se io.se) (fun V V=>rfl) (fun V V=>rfl),so:=SOp.vac rfl,sf:=SF.vac rfl,slo:=SLo.vac rfl,si:=SI.ofV (zJl it.se ib.se io.se) (fun V=>rfl),st:=ST.vac rfl,g1:=trivial,gs:=trivial,sn:=SN.vac rfl,snl:=SNl.vac rfl}
 | boo op l p il=>exact {
   se:=zJp il.sl,sl:=SL.vac rfl rfl rfl rfl rfl,sc:=SC.vac rfl,ss:=zAX (zJp il.sl) (fun V V=>rfl) (fun V V=>rfl),so:=SOp.vac rfl,sf:=SF.vac rfl,slo:=SLo.vac rfl,si:=SI.ofV (zJp il.sl) (fun V=>rfl),st:=ST.vac rfl,g1:=trivial,gs:=trivial,sn:=SN.vac rfl,snl:=SNl.vac rfl}
 | cmp a ops l p ia il=>exact {
   se:=zJo ia.se il.sc,sl:=SL.vac rfl rfl rfl rfl rfl,sc:=SC.vac rfl,ss:=zAX (zJo ia.se il.sc) (fun V V=>rfl) (fun V V=>rfl),so:=SOp.vac rfl,sf:=SF.vac rfl,slo:=SLo.vac rfl,si:=SI.ofV (zJo ia.se il.sc) (fun V=>rfl),st:=ST.vac rfl,g1:=trivial,gs:=trivial,sn:=SN.vac rfl,snl:=SNl.vac rfl}
 | tup l k p il=>exact {
   se:=zJf il.sl,sl:=SL.vac rfl rfl rfl rfl rfl,sc:=SC.vac rfl,ss:=zAX (zJf il.sl) (fun V V=>rfl) (fun V V=>rfl),so:=SOp.vac rfl,sf:=SF.vac rfl,slo:=SLo.vac rfl,si:=SI.ofV (zJf il.sl) (fun V=>rfl),st:=ST.vac rfl,g1:=trivial,gs:=trivial,sn:=zPb il.snl,snl:=SNl.vac rfl}
 | lst l p il=>exact {
   se:=zJj il.sl,sl:=SL.vac rfl rfl rfl rfl rfl,sc:=SC.vac rfl,ss:=zAX (zJj il.sl) (fun V V=>rfl) (fun V V=>rfl),so:=SOp.vac rfl,sf:=zPd il.sl,slo:=SLo.vac rfl,si:=SI.ofV (zJj il.sl) (fun V=>rfl),st:=ST.vac rfl,g1:=trivial,gs:=trivial,sn:=SN.vac rfl,snl:=SNl.vac rfl}
 | dct p=>exact {
   se:=zPi W,sl:=SL.vac rfl rfl rfl rfl rfl,sc:=SC.vac rfl,ss:=zJO.vac rfl,so:=SOp.vac rfl,sf:=zPe W,slo:=SLo.vac rfl,si:=SI.vac rfl,st:=ST.vac rfl,g1:=trivial,gs:=trivial,sn:=SN.vac rfl,snl:=SNl.vac rfl}
 | sub v i p iv ii=>exact {
   se:=zJg iv.se ii.ss,sl:=SL.vac rfl rfl rfl rfl rfl,sc:=SC.vac rfl,ss:=zAX (zJg iv.se ii.ss) (fun V V=>rfl) (fun V V=>rfl),so:=SOp.vac rfl,sf:=SF.vac rfl,slo:=SLo.vac rfl,si:=SI.ofV (zJg iv.se ii.ss) (fun V=>rfl),st:=ST.vac rfl,g1:=trivial,gs:=trivial,sn:=SN.vac rfl,snl:=SNl.vac rfl}
 | slc lo hi st p ilo ihi ist=>exact {
   se:=SE.vac rfl rfl rfl,sl:=SL.vac rfl rfl rfl rfl rfl,sc:=SC.vac rfl,ss:=zPT ilo.so ihi.so ist.so,so:=SOp.vac rfl,sf:=SF.vac rfl,slo:=SLo.vac rfl,si:=SI.vac rfl,st:=ST.vac rfl,g1:=trivial,gs:=trivial,sn:=SN.vac rfl,snl:=SNl.vac rfl}
 | call f fp l p il=>exact {
   se:=zHN W hc il.sl,sl:=SL.vac rfl rfl rfl rfl rfl,sc:=SC.vac rfl,ss:=zAX (zHN W hc il.sl) (fun V V=>rfl) (fun V V=>rfl),so:=SOp.vac rfl,sf:=zOD W hc il.sl,slo:=SLo.vac rfl,si:=SI.ofV (zHN W hc il.sl) (fun V=>rfl),st:=ST.vac rfl,g1:=trivial,gs:=trivial,sn:=SN.vac rfl,snl:=SNl.vac rfl}
 | blt b fp l p il=>exact {
   se:=zNM W hsort il.sl,sl:=SL.vac rfl rfl rfl rfl rfl,sc:=SC.vac rfl,ss:=zAX (zNM W hsort il.sl) (fun V V=>rfl) (fun V V=>rfl),so:=SOp.vac rfl,sf:=zPf W il.sl,slo:=SLo.vac rfl,si:=zPc W il.sl,st:=ST.vac rfl,g1:=trivial,gs:=trivial,sn:=SN.vac rfl,snl:=SNl.vac rfl}
 | meth o m mp l p io il=>exact {
   se:=zJi io.se il.sl,sl:=SL.vac rfl rfl rfl rfl rfl,sc:=SC.vac rfl,ss:=zAX (zJi io.se il.sl) (fun V V=>rfl) (fun V V=>rfl),so:=SOp.vac rfl,sf:=SF.vac rfl,slo:=SLo.vac rfl,si:=zOC,st:=ST.vac rfl,g1:=trivial,gs:=trivial,sn:=SN.vac rfl,snl:=SNl.vac rfl}
 | lco elt g tg sc p ielt ig=>exact {
   se:=zJk W ielt.se ig.gs,sl:=SL.vac rfl rfl rfl rfl rfl,sc:=SC.vac rfl,ss:=zAX (zJk W ielt.se ig.gs) (fun V V=>rfl) (fun V V=>rfl),so:=SOp.vac rfl,sf:=zNL W ielt.se ig.gs,slo:=SLo.vac rfl,si:=SI.ofV (zJk W ielt.se ig.gs) (fun V=>rfl),st:=ST.vac rfl,g1:=trivial,gs:=trivial,sn:=SN.vac rfl,snl:=SNl.vac rfl}
 | dco k v g tg sc p ik iv ig=>exact {
   se:=zPj W ik.se iv.se ig.gs,sl:=SL.vac rfl rfl rfl rfl rfl,sc:=SC.vac rfl,ss:=zJO.vac rfl,so:=SOp.vac rfl,sf:=SF.vac rfl,slo:=SLo.vac rfl,si:=SI.vac rfl,st:=ST.vac rfl,g1:=trivial,gs:=trivial,sn:=SN.vac rfl,snl:=SNl.vac rfl}
 | gen t i fs it ii ifs=>exact {
   se:=SE.vac rfl rfl rfl,sl:=SL.vac rfl rfl rfl rfl rfl,sc:=SC.vac rfl,ss:=zJO.vac rfl,so:=SOp.vac rfl,sf:=SF.vac rfl,slo:=SLo.vac rfl,si:=SI.vac rfl,st:=ST.vac rfl,g1:=⟨it.sn,ifs.st,ii.si⟩,gs:=trivial,sn:=SN.vac rfl,snl:=SNl.vac rfl}
 | raw e=>exact {
   se:=SE.vac rfl rfl rfl,sl:=SL.vac rfl rfl rfl rfl rfl,sc:=SC.vac rfl,ss:=zJO.vac rfl,so:=SOp.vac rfl,sf:=SF.vac rfl,slo:=SLo.vac rfl,si:=SI.vac rfl,st:=ST.vac rfl,g1:=trivial,gs:=trivial,sn:=SN.vac rfl,snl:=SNl.vac rfl}
end
section
variable {prog:Program} {w:World} {G:Heap} {ga:Addr×Addr} {A:Around} {env:Env} {Z X O:Addr→Prop} {fr:Frm} {s s':Shared} {n:Nat}
def zCX (O O':Addr→Prop) (s:Shared):Prop:=∀a,O' a→O a∨s.heap.get? a=none
theorem zCX.sub {O O':Addr→Prop} (h: ∀a,O' a→O a):zCX O O' s:=fun a x=> .inl (h a x)
theorem zAs {O1 O2:Addr→Prop} {s1 s2:Shared} (k:zAC O s s1) (n1:zCX O O1 s) (k2:zAC O1 s1 s2) (n2:zCX O1 O2 s1):zAC O s s2∧zCX O O2 s:=by
 refine ⟨k.trans k2 fun a o ho h=>(n1 a h).elim id fun h=>(by rw [ho] at h; cases h),fun a h=> ?_⟩
 rcases n2 a h with h | h
 ·exact n1 a h
 ·by_cases hO:O a
  ·exact .inl hO
  ·cases e:s.heap.get? a with
   | none=>exact .inr rfl
   | some o=>have:=k.get hO e; rw [this] at h; cases h
def zIW (w:World) (G:Heap) (ga:Addr×Addr) (A:Around) (env:Env) (Z X O:Addr→Prop) (n:Nat) (fl:Fl) (fw:Flow) (s':Shared):Prop:=match fl with
 | .next fr'=>fw= .next∧FC w G ga A env Z X O none fr' s' n
 | .cont fr'=>fw= .cont∧FC w G ga A env Z X O none fr' s' n
 | .ret d=>∃v,fw= .ret v∧RdW (PP Z X O) s'.heap v d
theorem FC.ownOld (F:FC w G ga A env Z X O none fr s n) (k:Keeps s s') {y:Nat} {dy:D} {u:Value} {m:Str→Option Value} (e:zAE y fr=some (.own dy)) (hm:s'.heap.Ns env.locals m) (h:Holds env s'.heap m y u): ∃b o,u= .ref b∧O b∧s.heap.get? b=some o:=by
 obtain ⟨m',hm',hv,_⟩:=(F.keeps k).fw.names
 have:=zDj hm hm'; subst this
 obtain ⟨v',h1,_,b,eb,h3,h4,_⟩:=hv y _ e h.kind
 rw [h.inj h1]
 obtain ⟨o,ho⟩:=F.fw.live b (.inr (.inr (h4 rfl)))
 exact ⟨b,o,eb,h4 rfl,ho⟩
theorem zJa {E:Value→Shared→Prop} {Q:Unit→Shared→Prop} {x:Nat} {v:Value} {d:D} (F:FC w G ga A env Z X O none fr s n) (hx:kN env.scope x=some .local∨kN env.scope x=some .cell) (k:Keeps s s') (f:zCY w (PP Z X O) s s' v d)
  (hQ: ∀s'' O',zAC O' s' s''→(∀a,O a→O' a)→zCX O O' s→FC w G ga A env Z X O' none (zBV x (zBZ true d) fr) s'' n→Q () s''):wpAny (model prog w) A (storeName env (nm x) v) Q E s':=by
 have own: ∀a,v= .ref a→s.heap.get? a=none→zHE w (fun b=>PP Z X O b∨b=a) s'.heap (.ref a) d→zBZ true d= .own d→(∃o,s'.heap.get? a=some o)→wpAny (model prog w) A (storeName env (nm x) v) Q E s':=fun a ev na hown hsl hal=>by
  subst ev
  have F':=F.adopt (A':=(· =a)) k (fun b e=>e▸na) fun b e=>e▸hal
  have hL:a≠env.locals:=fun e=>by
   obtain ⟨o,ho⟩:=F.fw.live _ (.inr (.inr F.fw.loc)); rw [←e,na] at ho; cases ho
  rw [hsl] at hQ
  refine F'.fw.store (sl:= .own d) hx trivial ⟨hown.step (fun V V V e=>e) (fun V V V e=>e) fun b V V h=> ?_,a,rfl, .inl (.inr rfl),fun V=> .inr rfl,hL⟩ (fun d' V V y dy u m hyx e hm h=> ?_) fun s'' kb f=> ?_
  ·rcases h with h | h | h | h
   ·exact .inl (.inl h)
   ·exact .inl (.inr (.inl h))
   ·exact .inl (.inr (.inr h))
   ·exact .inr h
  ·obtain ⟨b,o,rfl,_,ho⟩:=F.ownOld k e hm h
   intro e2; cases e2; rw [na] at ho; cases ho
  ·exact hQ s'' _ kb (fun V h=> .inl h) (fun b h=>h.elim .inl fun h=> .inr (h▸na)) (F'.to kb f)
 have val:RdW (PP Z X O) s'.heap v d→zBZ true d= .val d→wpAny (model prog w) A (storeName env (nm x) v) Q E s':=fun r hsl=>by
  rw [hsl] at hQ
  exact (F.keeps k).fw.store (sl:= .val d) hx trivial r (fun V e=>by cases e) fun s'' kb f=>hQ s'' O kb (fun V h=>h) (fun V h=> .inl h) ((F.keeps k).to kb f)
 induction d using PyData.casesOn with
 | list xs=>
  obtain ⟨a,vs,c,ev,na,g,r⟩:=f
  exact own a ev na ⟨a,vs,c,rfl,g,r⟩ rfl ⟨_,g⟩
 | dict kvs=>
  obtain ⟨a,ev,na,r⟩:=f
  exact own a ev na ⟨a,rfl,r⟩ rfl (let ⟨o,_,_,ho,_⟩:=r.at; ⟨o,ho⟩)
 | _=>exact val f rfl
end
section
def zQI (e:E):Bool:=Nat.beq e.ctorIdx 15
def zMz (e:E):Bool:=foE false true (fun h V V it=>zAA (zKT h) it false) (e:=e)
def zFz (sc:Scope) (x:Nat):Bool:=zBc (sc.names.lookup (nm x))
def itZ (i:E) (z:List Nat):Bool:=zAA (zIJ i) (foE false (m:=fun o=>Option.rec (motive:=fun V=>Bool) false (fun x=>decide (x∈z)) (zDx o)) (e:=i)) true
def zGI (es:E):Bool:= !((ups nm es).all (constantsAlone 8))||(ups nm es).all (foldedForSure 8)
noncomputable def zKE (op:Operator):Bool:=Nat.ble op.ctorIdx 1
def fstC (e:E):Bool:=foE false (c:=fun h V V V=>zKU h) (e:=e)
def fstT (e:E):Bool:=foE false (t:=fun l V=>fstC l) (e:=e)
abbrev swOk (t e:E):Bool:=zAA (zKU t) (zAA (zKU e) (fstT t) true) true
def Sk (st:S):Scope→Bool:=
 S.rec (motive:=fun V=>Scope→Bool) (fun V=>true) (fun V V h t sc=>zAA (h sc) (t sc) false)
  (fun t e o V V sc=>zAA ((Ck t).k sc) (zAA ((Ck e).k sc) (zAA (zAA o (zKT t) true) (swOk t e) false) false) false)
  (fun ts V p1 es V V V V V sc=>zAA ((Ck ts).k sc) (zAA ((Ck es).k sc) (zAA (zMz ts) (zAA (Nat.ble (len (zDw ts)) 20) (zAA (decide (zDw ts).Nodup)
   (zGI es) false) false) false) false) false)
  (fun x V i V e V V sc=>zAA (zFz sc x) (zAA ((Ck i).k sc) (zAA ((Ck e).k sc) (zEm (zQI i)) false) false) false)
  (fun x V y V mp cp V sc=>zAA (zFz sc x) (zAA (zFz sc y) (zAA (Nat.beq mp.endLine cp.line) (zEm (Nat.beq x y)) false) false) false)
  (fun x V y V mp k e cp V sc=>zAA (zFz sc x) (zAA (zFz sc y) (zAA (Nat.beq mp.endLine cp.line) (zAA (zEm (Nat.beq x y)) (zAA ((Ck k).k sc) ((Ck e).k sc) false) false) false) false) false)
  (fun x V op e V sc=>zAA (zFz sc x) (zAA ((Ck e).k sc) (zKE op) false) false)
  (fun x V i V op e V sc=>zAA (zFz sc x) (zAA ((Ck i).k sc) (zAA ((Ck e).k sc) (zAA (zEm (zQI i)) (zKE op) false) false) false) false)
  (fun x V V mp l cp V V sc=>zAA (zFz sc x) (zAA ((Ck l).k sc) (zAA (Nat.beq mp.endLine cp.line) (Nat.ble (Ck l).n 20) false) false) false)
  (fun f V x V i j V V sc=>zAA (zDP (sc.names.lookup (nm f))) (zAA (Nat.beq f 271) (zAA (zFz sc x) (zAA ((Ck i).k sc) ((Ck j).k sc) false) false) false) false)
  (fun e V V sc=>(Ck e).k sc)
  (fun e V V sc=>(Ck e).k sc)
  (fun t V V V b o sc=>zAA ((Ck t).k sc) (zAA (b sc) (o sc) false) false)
  (fun t V V b sc=>zAA ((Ck t).k sc) (b sc) false)
  (fun t i V z V b sc=>zAA (zAA (zEO i) (zKU t) true) (zAA ((Ck t).k sc) (zAA ((Ck i).k sc) (zAA (itZ i z) (b sc) false) false) false) false)
  (fun V V=>true) (fun V V=>true) st
end
section
variable {M:Model} {A:Around} {E:Value→Shared→Prop} {s:Shared} {env:Env}
theorem zCU {t e:Expr} {p:Pos} {Q:Flow→Shared→Prop} (hs:swapsWith e (some t) p.line env=pure false) (hw:swappedStores [t] e env=pure none) (ht:assignEach [t] env=[(false,assign t env)])
  (h:wpAny M A (eval e env) (fun v s₁=>wpAny M A (assign t env v) (fun V s₂=>Q .next s₂) E s₁) E s):wpAny M A (exec (.Assign [t] e p) env) Q E s:=by
 rw [exec_Assign]
 refine wpAny_bind (wpAny_standAt ?_)
 rw [show swapsWithSole [t] e p.line env=pure false from hs]
 refine wpAny_bind (wpAny_pure ?_)
 rw [if_neg (by decide)]
 refine wpAny_bind (wpAny_mono h (fun v s₁ h₁=> ?_) fun V V x=>x)
 rw [hw,ht]
 refine wpAny_bind (wpAny_pure ?_)
 show wpAny M A (do assignAll v [assign t env]; pure .next) Q E s₁
 exact wpAny_bind (wpAny_mono h₁ (fun V V x=>wpAny_pure x) fun V V x=>x)
theorem zHk {t elt:Expr} {gens:List Comprehension} {sc:Scope} {pos p:Pos} {Q:Flow→Shared→Prop} (hs:swapsWith (.ListComp elt gens sc pos) (some t) p.line env=pure true) (ht:assignEach [t] env=[(false,assign t env)])
  (h:wpAny M A (comprehension (.ListComp elt gens sc pos) sc env (firstIterPos gens pos) (newList []) (firstAsync gens) (firstIter gens env) (some fun v=>assign t env v)) (fun V s₁=>Q .next s₁) E s):
  wpAny M A (exec (.Assign [t] (.ListComp elt gens sc pos) p) env) Q E s:=by
 rw [exec_Assign]
 refine wpAny_bind (wpAny_standAt ?_)
 rw [show swapsWithSole [t] (.ListComp elt gens sc pos) p.line env=pure true from hs]
 refine wpAny_bind (wpAny_pure ?_)
 rw [if_pos rfl,ht]
 refine wpAny_bind ?_
 show wpAny M A (do let _←comprehension (.ListComp elt gens sc pos) sc env (firstIterPos gens pos) (newList []) (firstAsync gens) (firstIter gens env) (some fun v=>assignAll v [assign t env])) _ E s
 exact wpAny_bind (wpAny_mono h (fun V V x=>wpAny_pure (wpAny_pure x)) fun V V x=>x)
end
theorem zCc (t:E) (env:Env) (h: ∀x,t≠ .raw x):assignEach [up nm t] env=[(false,assign (up nm t) env)]:=by
 cases t <;> first | rfl | exact absurd rfl (h _)
section
variable {prog:Program} {w:World} {G:Heap} {ga:Addr×Addr} {mg:Str→Option Value} {gcx:Nat→Option D} {call:Nat→List D→Option D} {rc:Nat}
variable (prog w G ga gcx call rc) in
def SS (st:S):Prop:=∀(A:Around) (env:Env) (Z X O:Addr→Prop) (fr:Frm) (s:Shared) (Q:Flow→Shared→Prop) (E:Value→Shared→Prop) (fl:Fl),FC w G ga A env Z X O none fr s rc→Sk st env.scope=true→(Ex gcx call st).x fr=some fl→
 (∀fw s' O',zAC O s s'→zCX O O' s→zIW w G ga A env Z X O' rc fl fw s'→Q fw s')→wpAny (model prog w) A (exec (upS nm st) env) Q E s
variable (prog w G ga gcx call rc) in
def SSs (st:S):Prop:=∀(A:Around) (env:Env) (Z X O:Addr→Prop) (fr:Frm) (s:Shared) (Q:Flow→Shared→Prop) (E:Value→Shared→Prop) (fl:Fl),FC w G ga A env Z X O none fr s rc→Sk st env.scope=true→(Ex gcx call st).xs fr=some fl→
 (∀fw s' O',zAC O s s'→zCX O O' s→zIW w G ga A env Z X O' rc fl fw s'→Q fw s')→wpAny (model prog w) A (execs (zCW nm st) env) Q E s
theorem zEB {e:E} (hl: ∀elt g tg sc p,e≠ .lco elt g tg sc p) (hd: ∀k v g tg sc p,e≠ .dco k v g tg sc p) (hr: ∀x,e≠ .raw x) (t:Option Expr) (l:Nat) (env:Env):swapsWith (up nm e) t l env=pure false:=by
 cases e <;> first | rfl | exact absurd rfl (hl _ _ _ _ _) | exact absurd rfl (hd _ _ _ _ _ _) | exact absurd rfl (hr _)
theorem zJY {elt g:E} {tg:List Nat} {sc:Scope} {p:Pos} (t:E) (l:Nat) (env:Env) (hr:(∃x p,t= .var x p)∨∃l k p,t= .tup l k p): ∃b,swapsWith (up nm (.lco elt g tg sc p)) (some (up nm t)) l env=pure b∧(b=true→∃x xp,t= .var x xp∧env.kindOf (nm x)=some .local):=by
 rcases hr with ⟨x,xp,rfl⟩ | ⟨l,k,p,rfl⟩
 ·refine ⟨_,rfl,fun h=>⟨x,xp,rfl, ?_⟩⟩
  have h1:=(Bool.and_eq_true_iff.mp (Bool.and_eq_true_iff.mp (Bool.and_eq_true_iff.mp h).1).1).2
  simpa using h1
 ·exact ⟨false,rfl,fun h=>by cases h⟩
theorem ifR {α:Type} {c:Prop} [Decidable c] {a b r:α} (h:a=r) (k: ¬c→b=r):ite c a b=r:=if q:c then (if_pos q).trans h else (if_neg q).trans (k q)
theorem zGH {x:Expr} {ts vs:List Expr} {k1 k2:Nat} {p1 p2:Pos} {env:Env} (hx: ∀id pos,x≠ .Name id pos):swappedStores [.Tuple (x :: ts) k1 p1] (.Tuple vs k2 p2) env=pure none:=by
 refine ifR rfl fun V=>ifR rfl fun V=>ifR rfl fun h3=> ?_
 exfalso
 have h3:=(Bool.or_eq_false_iff.mp (Bool.eq_false_iff.mpr h3)).1
 rw [List.filterMap_cons_none (by cases x <;> first | rfl | exact absurd rfl (hx _ _))] at h3
 have h3:=bne_eq_false_iff_eq.mp h3
 exact absurd (Nat.le_trans (Nat.le_of_eq h3.symm) (List.length_filterMap_le _ ts)) (Nat.not_succ_le_self _)
theorem zDV {t e:E} (h:swOk t e=true) (ht: ∀x,t≠ .raw x) (he: ∀x,e≠ .raw x) (hl: ∀l p,up nm t≠ .List l p) (env:Env):swappedStores [up nm t] (up nm e) env=pure none:=by
 induction t using E.casesOn with
 | tup l k p=>
  induction e using E.casesOn with
  | tup l' k' p'=>
   have h:fstT (.tup l k p)=true:=h
   induction l using E.casesOn with
   | cons x y=>
    induction x using E.casesOn with
    | tup a b c=>exact zGH fun V V e=>by cases e
    | _=>exact absurd (show false=true from h) Bool.false_ne_true
   | _=>exact absurd (show false=true from h) Bool.false_ne_true
  | raw x=>exact absurd rfl (he x)
  | _=>rfl
 | lst l p=>exact absurd rfl (hl _ _)
 | raw x=>exact absurd rfl (ht x)
 | _=>rfl
theorem t_ok {t:E} (h:(∃x p,t= .var x p)∨∃l k p,t= .tup l k p):(∀x,t≠ .raw x)∧∀l p,up nm t≠ .List l p:=by
 rcases h with ⟨x,p,rfl⟩ | ⟨l,k,p,rfl⟩
 ·exact ⟨fun V e=>(by cases e),fun V V e=>(by cases e)⟩
 ·exact ⟨fun V e=>(by cases e),fun V V e=>(by cases e)⟩
theorem kN_of {sc:Scope} {x:Nat} (h:zBc (sc.names.lookup (nm x))=true):kN sc x=some .local∨kN sc x=some .cell:=zAx h
theorem zPY (W:Wd w G ga mg gcx) {t e:E} {o:Bool} {z:List Nat} {p:Pos} (at_:zEk prog w G ga gcx call rc t) (ae:zEk prog w G ga gcx call rc e) (asub: ∀elt g tg sc p,e= .lco elt g tg sc p→zEk prog w G ga gcx call rc elt∧zEk prog w G ga gcx call rc g):SS prog w G ga gcx call rc (.asg t e o z p):=by
 intro A env Z X O fr s Q E fl F hk h hQ
 obtain ⟨k1,k2⟩:=zAN (show zAA ((Ck t).k env.scope) (zAA ((Ck e).k env.scope) (zAA (zAA o (zKT t) true) (swOk t e) false) false) false=true from hk)
 obtain ⟨k5,k6⟩:=zAN k2
 obtain ⟨k3,k4⟩:=zAN k6
 obtain ⟨O1,hO1,F1⟩:=F.frz z
 have hQ': ∀s' O',zAC O1 s s'→zCX O1 O' s→∀fr',fl= .next fr'→FC w G ga A env Z X O' none fr' s' rc→Q .next s':=fun s' O' k n fr' e f=>
  hQ .next s' O' (k.mono fun a V V h=>hO1 a h) (fun a h=>(n a h).imp (hO1 a) id) (by rw [e]; exact ⟨rfl,f⟩)
 have h:zAA o (bnd ((Ev gcx call e).f (frz z fr)) fun d=>bnd (zDx t) fun x=>zAy x (zBZ true d) (frz z fr)) (bnd ((Ev gcx call e).v (frz z fr)) fun d=>bnd ((Ev gcx call t).n d (frz z fr)) fun fr=>some (.next fr))=some fl:=h
 have notDco: ∀k v g tg sc p,e≠ .dco k v g tg sc p:=fun k v g tg sc p q=>by
  subst q
  induction o with
  | true=>cases h
  | false=>cases h
 have notRaw: ∀x,e≠ .raw x:=fun x q=>by
  subst q
  induction o with
  | true=>cases h
  | false=>cases h
 have tOk0:(∃x p,t= .var x p)∨∃l k p,t= .tup l k p:=by
  induction o with
  | true=>
   obtain ⟨d,_,h⟩:=zAB (show bnd ((Ev gcx call e).f (frz z fr)) (fun d=>bnd (zDx t) fun x=>zAy x (zBZ true d) (frz z fr))=some fl from h)
   obtain ⟨x,h2,_⟩:=zAB h
   obtain ⟨xp,rfl⟩:=zCL h2
   exact .inl ⟨_,_,rfl⟩
  | false=>
   obtain ⟨d,_,h⟩:=zAB (show bnd ((Ev gcx call e).v (frz z fr)) (fun d=>bnd ((Ev gcx call t).n d (frz z fr)) fun fr=>some (.next fr))=some fl from h)
   obtain ⟨fr',h2,_⟩:=zAB h
   exact n_ok h2
 have tOk:=t_ok tOk0
 have hte:=zCc t env tOk.1
 have hsn:=zDV k4 tOk.1 notRaw tOk.2 env
 have plain:swapsWith (up nm e) (some (up nm t)) p.line env=pure false→wpAny (model prog w) A (exec (.Assign [up nm t] (up nm e) p) env) Q E s:=fun hsw=>by
  refine zCU hsw hsn hte ?_
  induction o with
  | true=>
   obtain ⟨d,h1,h⟩:=zAB (show bnd ((Ev gcx call e).f (frz z fr)) (fun d=>bnd (zDx t) fun x=>zAy x (zBZ true d) (frz z fr))=some fl from h)
   obtain ⟨x,h2,h3⟩:=zAB h
   obtain ⟨xp,rfl⟩:=zCL h2
   have h3:zDL x (zBZ true d) (frz z fr) (fun fr=>some (Fl.next fr))=some fl:=h3
   rw [zAb] at h3
   cases h3
   refine ae.sf A env _ _ s _ E d F1.cx k5 h1 fun v s₁ q f=> ?_
   exact wpAny_assign_Name (zJa F1 (kN_of k1) q f fun s'' O' k hO n f'=>hQ' s'' O' ((zAC.of (O:=O1) q).trans k fun a o ho h=>(n a h).elim id fun h=>by rw [ho] at h; cases h) n _ rfl f')
  | false=>
   obtain ⟨d,h1,h⟩:=zAB (show bnd ((Ev gcx call e).v (frz z fr)) (fun d=>bnd ((Ev gcx call t).n d (frz z fr)) fun fr=>some (.next fr))=some fl from h)
   obtain ⟨fr',h2,h3⟩:=zAB h
   cases h3
   refine ae.se.v A env _ _ s _ E d F1.cx k5 h1 fun v s₁ q r=> ?_
   exact at_.sn A env Z X O1 none _ fr' s₁ rc _ E v d (F1.keeps q) k1 (fun V V=>trivial) h2 r fun s'' k f'=>hQ' s'' O1 ((zAC.of (O:=O1) q).trans k fun a V V h=>h) (zCX.sub fun V h=>h) _ rfl f'
 by_cases hlc: ∃elt g tg sc p,e= .lco elt g tg sc p
 ·obtain ⟨elt,g,tg,sc,pe,rfl⟩:=hlc
  obtain ⟨b,hb,hb2⟩:=zJY (elt:=elt) (g:=g) (tg:=tg) (sc:=sc) (p:=pe) t p.line env tOk0
  induction b with
  | false=>exact plain hb
  | true=>
   obtain ⟨x,xp,rfl,hloc⟩:=hb2 rfl
   obtain ⟨a1,a2⟩:=asub _ _ _ _ _ rfl
   refine zHk hb hte ?_
   have hv: ∃d,(Ev gcx call (.lco elt g tg sc pe)).v (frz z fr)=some d∧fl= .next (zBV x (zBZ o d) (frz z fr)):=by
    induction o with
    | true=>
     obtain ⟨d,h1,h⟩:=zAB (show bnd ((Ev gcx call (.lco elt g tg sc pe)).v (frz z fr)) (fun d=>bnd (some x) fun x=>zAy x (zBZ true d) (frz z fr))=some fl from h)
     have h3:zDL x (zBZ true d) (frz z fr) (fun fr=>some (Fl.next fr))=some fl:=h
     rw [zAb] at h3
     cases h3
     exact ⟨d,h1,rfl⟩
    | false=>
     obtain ⟨d,h1,h⟩:=zAB (show bnd ((Ev gcx call (.lco elt g tg sc pe)).v (frz z fr)) (fun d=>bnd (zDL x (.val d) (frz z fr) some) fun fr=>some (.next fr))=some fl from h)
     rw [zAb] at h
     cases h
     exact ⟨d,h1,rfl⟩
   obtain ⟨d,h1,rfl⟩:=hv
   refine zIH W a1.se a2.gs (use:=some fun v=>assign (up nm (.var x xp)) env v) F1.cx k5 h1 fun D' C O' s' k n1 n2 ne m ⟨out,e,vs,c,g1,r⟩ hO=> ?_
   subst e
   obtain ⟨m,hm⟩:=m
   show wpAny _ A (assign (up nm (.var x xp)) env (.ref D')) (fun V s''=>∃m,s''.heap.Ns C m∧∀h',Heap.SameBut C s''.heap h'→Q .next {s'' with heap:=h'}) E s'
   have hCP: ¬PP Z X O1 C:=fun h=>by obtain ⟨o,ho⟩:=F1.fw.live C h; rw [n2] at ho; cases ho
   have F2:FC w G ga A env Z (fun a=>X a∨a=C) O1 none (frz z fr) s' rc:=by
    refine ⟨F1.fw.grow k (fun a o ho h=> ?_) (fun a h=> ?_) (fun a h=>⟨(F1.fw.dO a h).1,fun q=>q.elim (F1.fw.dO a h).2 fun q=>hCP (q▸ .inr (.inr h))⟩) (fun a q=>q.elim (F1.fw.dX a) fun q z=>hCP (q▸ .inl z)) (fun V h=>h) fun V h=>h,(F1.keeps k).hand,fun b hb h=> ?_,F1.gl,F1.dep,F1.un⟩
    ·rcases h with h | (h | h) | h
     ·exact .inl h
     ·exact .inr (.inl h)
     ·rw [h,n2] at ho; cases ho
     ·exact .inr (.inr h)
    ·rcases h with h | (h | h) | h
     ·obtain ⟨o,ho⟩:=F1.fw.live a (.inl h); exact ⟨o,Keeps.get k ho⟩
     ·obtain ⟨o,ho⟩:=F1.fw.live a (.inr (.inl h)); exact ⟨o,Keeps.get k ho⟩
     ·obtain ⟨o,_,_,ho,_⟩:=hm; exact ⟨o,h▸ho⟩
     ·obtain ⟨o,ho⟩:=F1.fw.live a (.inr (.inr h)); exact ⟨o,Keeps.get k ho⟩
    ·rcases h with h | (h | h) | h
     ·exact F1.hp b hb (.inl h)
     ·exact F1.hp b hb (.inr (.inl h))
     ·obtain ⟨o,ho⟩:=F1.hand.liveAt hb; rw [h,n2] at ho; cases ho
     ·exact F1.hp b hb (.inr (.inr h))
   have fin: ∀s'' O2,zAC O2 s' s''→(∀a,O1 a→O2 a)→(∀a,O2 a→O1 a∨a=D')→FC w G ga A env Z (fun a=>X a∨a=C) O2 none (zBV x (zBZ o (.list out)) (frz z fr)) s'' rc→
     ∃m,s''.heap.Ns C m∧∀h',Heap.SameBut C s''.heap h'→Q .next {s'' with heap:=h'}:=fun s'' O2 kb hO2 hO2' f=>by
    have hC2: ¬O2 C:=fun h=>(f.fw.dO C h).2 (.inr rfl)
    refine ⟨m, ?_,fun h' hs=> ?_⟩
    ·obtain ⟨o,es,ep,ho,r⟩:=hm; exact ⟨o,es,ep,kb.get hC2 ho,r⟩
    ·have kc:zAC (fun a=>X a∨a=C) s'' {s'' with heap:=h'}:=zAC.same (t:=s''.toks) hs (.inr rfl)
     refine hQ' _ O2 ?_ (fun a h=>(hO2' a h).imp id fun h=>(by rw [h]; exact n1)) _ rfl (f.next kc (fun a h=> .inl h) fun a h=> ?_)
     ·refine (((zAC.of (O:=O1) k).trans kb fun a o ho h=>(hO2' a h).elim id fun h=>by rw [h,n1] at ho; cases ho).trans (zAC.same (O:=(· =C)) (t:=s''.toks) hs rfl) fun a o ho h=> ?_)
      rw [h,n2] at ho; cases ho
     ·obtain ⟨o,ho⟩:=f.fw.live a (.inr (.inl (.inl h)))
      have hne:a≠C:=fun q=>hCP (q▸ .inr (.inl h))
      exact ⟨o,(hs.2 a hne).trans ho⟩
   have hread: ∀(PB:Addr→Prop),(∀a,PB a→PP (PP Z X O1) (· =D') O' a)→zAK PB s'.heap vs.toList out:=fun PB hPB=>r.step (fun V V V e=>e) fun a V V h=>hPB a h
   have hsub: ∀a,PP Z (fun a=>X a∨a=C) O1 a→PP (PP Z X O1) (· =D') O' a:=fun a h=>by
    rcases h with h | (h | h) | h
    ·exact .inl (.inl h)
    ·exact .inl (.inr (.inl h))
    ·exact .inr (.inr (h▸hO))
    ·exact .inl (.inr (.inr h))
   have hD1: ¬PP Z (fun a=>X a∨a=C) O1 D':=fun h=>by
    rcases h with h | (h | h) | h
    ·obtain ⟨o,ho⟩:=F1.fw.live D' (.inl h); rw [n1] at ho; cases ho
    ·obtain ⟨o,ho⟩:=F1.fw.live D' (.inr (.inl h)); rw [n1] at ho; cases ho
    ·exact ne h
    ·obtain ⟨o,ho⟩:=F1.fw.live D' (.inr (.inr h)); rw [n1] at ho; cases ho
   refine wpAny_assign_Name ?_
   induction o with
   | false=>
    refine F2.fw.store (sl:= .val (.list out)) (.inl hloc) trivial ?_ (fun V e=>by cases e) fun s'' kb f=>fin s'' O1 kb (fun V h=>h) (fun V h=> .inl h) (F2.to kb f)
    show RdW (PP Z (fun a=>X a∨a=C) O1) s'.heap (.ref D') (.list out)
    exact .list g1 hD1 (hread _ hsub)
   | true=>
    have F3:FC w G ga A env Z (fun a=>X a∨a=C) (fun a=>O1 a∨a=D') none (frz z fr) s' rc:=by
     refine ⟨F1.fw.grow k (fun a o ho h=> ?_) (fun a h=> ?_) (fun a h=>⟨fun zz=> ?_,fun q=> ?_⟩) (fun a q=>q.elim (F1.fw.dX a) fun q z=>hCP (q▸ .inl z)) (fun V h=> .inl h) fun V h=>h,F2.hand,fun b hb h=> ?_,F1.gl,F1.dep,F1.un⟩
     ·rcases h with h | (h | h) | h | h
      ·exact .inl h
      ·exact .inr (.inl h)
      ·rw [h,n2] at ho; cases ho
      ·exact .inr (.inr h)
      ·rw [h,n1] at ho; cases ho
     ·rcases h with h | h | h | h
      ·exact F2.fw.live a (.inl h)
      ·exact F2.fw.live a (.inr (.inl h))
      ·exact F2.fw.live a (.inr (.inr h))
      ·exact ⟨_,h▸g1⟩
     ·rcases h with h | h
      ·exact (F1.fw.dO a h).1 zz
      ·exact hD1 (h▸ .inl zz)
     ·rcases h with h | h
      ·exact (F2.fw.dO a h).2 q
      ·exact hD1 (h▸ .inr (.inl q))
     ·rcases h with h | h | h | h
      ·exact F2.hp b hb (.inl h)
      ·exact F2.hp b hb (.inr (.inl h))
      ·exact F2.hp b hb (.inr (.inr h))
      ·obtain ⟨o,ho⟩:=F1.hand.liveAt hb; rw [h,n1] at ho; cases ho
    have hL:D'≠env.locals:=fun e=>by
     obtain ⟨o,ho⟩:=F1.fw.live _ (.inr (.inr F1.fw.loc)); rw [←e,n1] at ho; cases ho
    refine F3.fw.store (sl:= .own (.list out)) (.inl hloc) trivial ⟨⟨D',vs,c,rfl,g1,hread _ fun a h=> ?_⟩,D',rfl, .inl (.inr rfl),fun V=> .inr rfl,hL⟩ (fun d' V V y dy u m hyx e hm h=> ?_) fun s'' kb f=>fin s'' _ kb (fun V h=> .inl h) (fun V h=>h) (F3.to kb f)
    ·rcases h with h | (h | h) | h | h
     ·exact .inl (.inl h)
     ·exact .inl (.inr (.inl h))
     ·exact .inr (.inr (h▸hO))
     ·exact .inl (.inr (.inr h))
     ·exact .inr (.inl h)
    ·obtain ⟨b,o,rfl,_,ho⟩:=F1.ownOld k e hm h
     intro e2; cases e2; rw [n1] at ho; cases ho
 ·exact plain (zEB (fun elt g tg sc p q=>hlc ⟨elt,g,tg,sc,p,q⟩) notDco notRaw _ _ _)
end
section
variable {prog:Program} {w:World} {A:Around} {E:Value→Shared→Prop} {s:Shared} {l:Addr} {vs:Array Value} {c:Nat}
theorem zCi (k:Nat) (h:k≤100000):(k:Int) < 2 ^ 63:=by lia
theorem zHh (k:Nat) (h:(k:Int) < 2 ^ 63):Builtin.List.listFitsIndex (k:Int)=true:=fitsIndex_of (Int.natCast_nonneg k) h
theorem zIz (k:Nat) (h:k≤100000):Builtin.List.listFitsIndex (k:Int)=true:=zHh k (zCi k h)
theorem zHg (k:Int) (h:Builtin.List.listFitsIndex k=true): ¬(!Builtin.List.listFitsIndex k)=true:=by rw [h]; exact Bool.false_ne_true
theorem zIe {k:Int} {t:Tok} {v:Value} {Q:Unit→Shared→Prop} (g:s.heap.get? l=some (zBz vs c)) (h0:0≤k) (hfit:k < 2 ^ 63) (hn:k < vs.size)
  (hQ: ∀h' c',h'.get? l=some (zBz (vs.setIfInBounds k.toNat v) c')→Heap.SameBut l s.heap h'→Q () {s with heap:=h'}):wpAny (model prog w) A (setItem (.ref l) (.int k t) v) Q E s:=by
 have hT:s.TypeIs (.ref l) "list":=⟨_,g,rfl⟩
 unfold setItem
 try with_reducible refine wpAny_holding ?_
 first | refine wpAny_bind (wpAny_pure ?_) | skip
 refine wpAny_bind (wpAny_sequenceKey hT (by decide) ?_)
 refine wpAny_bind (wpAny_callSpecial?_slot (name:=Str.ofString "__setitem__") hT slot_list_setitem
  (wpAny_call_entry slot_list_setitem hT entry_list_setitem ?_ (args_list_setitem _ _ _)))
 show wpAny _ _ (Builtin.List.listSubscript? (.int k t) >>= _) _ _ s
 refine wpAny_bind (wpAny_listSubscript_int (fitsIndex_of h0 hfit) ?_)
 clear hfit
 obtain ⟨j,rfl⟩:=Int.eq_ofNat_of_zero_le h0
 have hj:j < vs.size:=by lia
 have hx':vs[j]? =some vs[j]:=Array.getElem?_eq_getElem hj
 show wpAny _ _ ((seqItemAt l j >>= fun r=>pure (r.map (j, ·))) >>= _) _ _ s
 refine wpAny_bind (wpAny_bind (wpAny_seqItemAt g rfl (wpAny_pure ?_)))
 rw [hx']
 show wpAny _ _ (setSeqItemAt l j v >>= _) _ _ s
 refine wpAny_bind (wpAny_setSeqItemAt g rfl ?_)
 have fin:=hQ _ _ (get?_update_seq (c:="list") g (·.setIfInBounds j v)) (Heap.SameBut.update ..)
 first
  | exact wpAny_bind (wpAny_pure (wpAny_pure ⟨.none,rfl,wpAny_pure fin⟩))
  | exact wpAny_pure ⟨.none,rfl,wpAny_pure fin⟩
theorem zEF {k:Nat} {t:Tok} {v:Value} {Q:Unit→Shared→Prop} (g:s.heap.get? l=some (zBz vs c)) (hs:vs.size≤100000) (hn:k < vs.size)
  (hQ: ∀h' c',h'.get? l=some (zBz (vs.setIfInBounds k v) c')→Heap.SameBut l s.heap h'→Q () {s with heap:=h'}):wpAny (model prog w) A (setItem (.ref l) (.int k t) v) Q E s:=
 zIe g (Int.natCast_nonneg k) (zCi k (Nat.le_trans (Nat.le_of_lt hn) hs)) (Int.ofNat_lt.mpr hn) hQ
theorem zJx {ws:List Value} {v:Value} {Q:Value→Shared→Prop} (g:s.heap.get? l=some (zBz vs c)) (hs:vs.size≤100000) (hv:vs.toList=ws++[v])
  (hQ: ∀h' vs' c',h'.get? l=some (zBz vs' c')→vs'.toList=ws→Heap.SameBut l s.heap h'→Q v {s with heap:=h'}):wpAny (model prog w) A (PySem.call (.builtin "list.pop") [.ref l]) Q E s:=by
 have hT:s.TypeIs (.ref l) "list":=⟨_,g,rfl⟩
 have hsz:vs.size=ws.length + 1:=by have:=congrArg List.length hv; simpa using this
 refine wpAny_call_entry F.slot_list_pop hT F.entry_list_pop ?_ (F.args_list_pop_1 _)
 unfold Builtin.«list.pop»
 refine wpAny_bind (wpAny_of_eq (a:=(Value.ref l,[])) (by first | rfl | kernel_rfl) ?_)
 dsimp only
 refine wpAny_bind (wpAny_pure ?_)
 rw [if_neg (by decide)]
 refine wpAny_bind (listItems_at g rfl ?_)
 rw [if_neg (by intro h; have:vs.size=0:=(by simpa using h); lia)]
 have hi:seqIndex? (-1) vs.size=some ws.length:=by
  unfold seqIndex?
  have e:(if (-1:Int) < 0 then (-1:Int) + (vs.size:Int) else -1)=(ws.length:Int):=by rw [if_pos (by decide)]; lia
  simp only [e]
  rw [if_pos (by simp; lia)]
  simp
 have hx:vs[ws.length]? =some v:=by
  rw [←Array.getElem?_toList,hv]; simp
 rw [hi]
 simp only [Option.bind_some,hx,Option.map_some]
 refine wpAny_bind (listUpdate_at g rfl (wpAny_pure ⟨v,rfl,hQ _ _ _ (get?_update_seq (c:="list") g (·.eraseIdxIfInBounds ws.length)) ?_ (Heap.SameBut.update ..)⟩) (by rw [sizeLine_eq]; lia) (by
  have:(vs.eraseIdxIfInBounds ws.length).size≤vs.size:=by
   obtain ⟨l⟩:=vs; simp [List.length_eraseIdx]; split <;> lia
  rw [sizeLine_eq]; lia))
 have:(vs.eraseIdxIfInBounds ws.length).toList=vs.toList.eraseIdx ws.length:=by obtain ⟨l⟩:=vs; simp
 rw [this,hv]
 have key: ∀(a:List Value),(a++[v]).eraseIdx a.length=a:=by
  intro a
  induction a with
  | nil=>rfl
  | cons x a ih=>simp [ih]
 exact key ws
theorem zGn {m:Addr} {us:Array Value} {c2:Nat} {Q:Value→Shared→Prop} (g:s.heap.get? l=some (zBz vs c)) (g2:s.heap.get? m=some (zBz us c2)) (hs:vs.size≤100000) (hs2:us.size≤100000)
  (hQ: ∀h' c',h'.get? l=some (zBz (vs++us) c')→Heap.SameBut l s.heap h'→Q .none {s with heap:=h'}):wpAny (model prog w) A (PySem.call (.builtin "list.extend") [.ref l, .ref m]) Q E s:=by
 have hT:s.TypeIs (.ref l) "list":=⟨_,g,rfl⟩
 refine wpAny_call_entry F.slot_list_extend hT F.entry_list_extend ?_ (F.args_list_extend_2 _ _)
 unfold Builtin.«list.extend»
 refine wpAny_bind (wpAny_of_eq (a:=(Value.ref l,Value.ref m)) (by first | rfl | kernel_rfl) ?_)
 dsimp only
 unfold Builtin.List.listExtendWith
 refine wpAny_bind (wpAny_typeOf (T:="list") ⟨_,g2,rfl⟩ ?_)
 have ht:(Value.type "list"==Value.type "list")=true:=by rfl
 rw [if_pos (by rw [ht]; simp)]
 refine wpAny_bind (listItems_at g2 rfl ?_)
 refine wpAny_bind (listItems_at g rfl ?_)
 rw [if_neg (by simp [Builtin.List.listTooLong,sizeLine]; intro _; lia)]
 refine wpAny_bind (listUpdate_at g rfl ?_ (by rw [sizeLine_eq]; lia) (by rw [sizeLine_eq]; simp; lia))
 exact wpAny_pure ⟨.none,rfl,hQ _ _ (get?_update_seq (c:="list") g (· ++us)) (Heap.SameBut.update ..)⟩
theorem zFf {k:Int} {u:Tok} {y:Value} {Q:Value→Shared→Prop} (g:s.heap.get? l=some (zBz vs c)) (hs:vs.size≤sizeLine) (hfit:Builtin.List.listFitsIndex k=true)
  (hQ: ∀c',(s.heap.update l (Obj.mapSeq fun xs=>have k':=if k < 0 then (k + ((xs.size:Nat):Int)).toNat else min k.toNat xs.size; (xs.extract 0 k').push y++xs.extract k')).get? l=some (zBz ((fun xs:Array Value=>have k':=if k < 0 then (k + ((xs.size:Nat):Int)).toNat else min k.toNat xs.size; (xs.extract 0 k').push y++xs.extract k') vs) c')→
   Q .none {s with heap:=s.heap.update l (Obj.mapSeq fun xs=>have k':=if k < 0 then (k + ((xs.size:Nat):Int)).toNat else min k.toNat xs.size; (xs.extract 0 k').push y++xs.extract k')}):wpAny (model prog w) A (PySem.call (.builtin "list.insert") [.ref l, .int k u,y]) Q E s:=by
 have hT:s.TypeIs (.ref l) "list":=⟨_,g,rfl⟩
 exact call_meets F.slot_list_insert hT F.entry_list_insert (F.args_list_insert_3 _ _ _) (AutoListH.list_insert_list_int_val_1 l vs c k u y (zHg _ hfit) hs) ⟨g,hQ _ (get?_update_seq (c:="list") g _)⟩
theorem zGh {k:Nat} {u:Tok} {y:Value} {Q:Value→Shared→Prop} (g:s.heap.get? l=some (zBz vs c)) (hs:vs.size≤100000) (hk:k≤vs.size)
  (hQ: ∀h' vs' c',h'.get? l=some (zBz vs' c')→vs'.toList=vs.toList.take k++y :: vs.toList.drop k→Heap.SameBut l s.heap h'→Q .none {s with heap:=h'}):wpAny (model prog w) A (PySem.call (.builtin "list.insert") [.ref l, .int k u,y]) Q E s:=by
 refine zFf g (by rw [sizeLine_eq]; lia) (zIz k (Nat.le_trans hk hs)) fun c' e=>hQ _ _ _ e ?_ (Heap.SameBut.update ..)
 have hk':(if (k:Int) < 0 then ((k:Int) + ((vs.size:Nat):Int)).toNat else min (k:Int).toNat vs.size)=k:=by rw [if_neg (by lia)]; lia
 dsimp only
 rw [hk']
 rw [Array.toList_append,Array.toList_push,Array.toList_extract,Array.toList_extract]
 simp only [List.extract]
 rw [List.append_assoc]
 have e1:List.take (vs.size - k) (List.drop k vs.toList)=List.drop k vs.toList:=List.take_of_length_le (by simp)
 simp [e1]
end
section
variable {prog:Program} {w:World} {G:Heap} {ga:Addr×Addr} {A:Around} {env:Env} {Z X O:Addr→Prop} {tg:Option (List Nat)} {fr:Frm} {s s':Shared} {n:Nat}
theorem zAh {Q:Value→Shared→Prop} {E:Value→Shared→Prop} {x:Nat} {p:Pos} {sl:Slot} (F:FrW w G env Z X O tg fr s) (hk:zBc (env.scope.names.lookup (nm x))=true) (h:zAE x fr=some sl)
  (hQ: ∀v m,s.heap.Ns env.locals m→Holds env s.heap m x v→zJJ w Z X O env.locals tg.isNone s.heap v sl→Q v s):wpAny (model prog w) A (eval (.Name (nm x) p) env) Q E s:=by
 obtain ⟨m,hn,hv,_⟩:=F.names
 obtain ⟨v,hv,r⟩:=hv x sl h (zAx hk)
 have hq:=hQ v m hn hv r
 refine wpAny_Name ?_ (zBT x)
 rcases hv with ⟨h1,h2⟩ | ⟨h1,c,h2,h3⟩
 ·exact wpAny_loadName_local F.kind h1 hn h2 hq
 ·exact wpAny_loadName_cell F.kind h1 h2 h3 hq
theorem FC.upd (F:FC w G ga A env Z X O none fr s n) {x:Nat} {d d':D} {a:Addr} {m:Str→Option Value} (hf:zAE x fr=some (.own d)) (hm:s.heap.Ns env.locals m) (hv:Holds env s.heap m x (.ref a)) (k:zAC (· =a) s s')
  (own:zHE w (PP Z X O) s'.heap (.ref a) d'):zAC O s s'∧FC w G ga A env Z X O none (zBV x (.own d') fr) s' n:=by
 obtain ⟨m',hm',hs,hp⟩:=F.fw.names
 have:=zDj hm hm'; subst this
 obtain ⟨v',h1,h2,b,eb,h3,h4,h5⟩:=hs x _ hf hv.kind
 have e1:=hv.inj h1
 rw [eb] at e1
 cases e1
 rw [eb] at h2
 have hO:O a:=h4 rfl
 have kO:zAC O s s':=k.mono fun b o V e=>by rw [e]; exact hO
 obtain ⟨oa,hoa,hda⟩:=h2.at
 obtain ⟨oa',hoa',_⟩:=own.at
 have cne: ∀n c v,env.cells.lookup n=some c→s.heap.IsCell c v→c≠a:=fun n c v V q e=>by
  subst e
  obtain ⟨o',ho',hd'⟩:=q
  rw [hoa] at ho'; cases ho'
  rcases hda with ⟨_,_,hd⟩ | ⟨_,_,hd⟩ <;> rw [hd'] at hd <;> cases hd
 have cell: ∀n c v,env.cells.lookup n=some c→s.heap.IsCell c v→s'.heap.IsCell c v:=fun n c v e q=>by
  have hne:=cne n c v e q
  obtain ⟨o',ho',hd'⟩:=q
  exact ⟨o',k.get hne ho',hd'⟩
 have hh: ∀{y u},Holds env s.heap m y u→Holds env s'.heap m y u:=fun {y u} h=>h.imp id fun ⟨k1,c,e,q⟩=>⟨k1,c,e,cell _ c _ e q⟩
 have st: ∀b o,¬PP Z X O b→s.heap.get? b=some o→s'.heap.get? b=some o:=fun b o nb e=>k.get (fun q=>nb (.inr (.inr (by rw [q]; exact hO)))) e
 have hm2:s'.heap.Ns env.locals m:=by
  obtain ⟨o,es,ep,ho,r⟩:=hm
  exact ⟨o,es,ep,k.get (Ne.symm h5) ho,r⟩
 refine ⟨kO,F.to kO ⟨fun b o e=>⟨k.get (fun q=>(F.fw.glob b o e).2 (.inr (.inr (by rw [q]; exact hO)))) (F.fw.glob b o e).1,(F.fw.glob b o e).2⟩,fun b h=> ?_,F.fw.dO,F.fw.dX,F.fw.kind,F.fw.loc,fun n hk=> ?_,F.fw.cset,fun n c e=> ?_,F.fw.cinj,F.fw.cw,m,hm2,fun y sl e hy=> ?_,fun ht y z dy dz p u hyz e1 e2 g1 g2=> ?_⟩⟩
 ·by_cases hb:b=a
  ·exact ⟨oa',by rw [hb]; exact hoa'⟩
  ·obtain ⟨o,e⟩:=F.fw.live b h; exact ⟨o,k.get hb e⟩
 ·obtain ⟨c,v,e,q⟩:=F.fw.cells n hk
  exact ⟨c,v,e,cell n c v e q⟩
 ·obtain ⟨v,q⟩:=F.fw.ccell n c e
  exact ⟨v,cell n c v e q⟩
 ·rw [zAT] at e
  by_cases hyx:y=x
  ·rw [if_pos hyx] at e; cases e; subst hyx
   exact ⟨.ref a,hh hv,own,a,rfl,h3,h4,h5⟩
  ·rw [if_neg hyx] at e
   obtain ⟨u,g1,g2⟩:=hs y sl e hy
   refine ⟨u,hh g1, ?_⟩
   induction sl with
   | val d=>exact RdW.step st (fun V V V e=>e) (show RdW (PP Z X O) s.heap u d from g2)
   | own d=>
    have hne:=hp rfl y x _ _ u (.ref a) hyx e hf g1 hv
    obtain ⟨q,b,eb,q3,q4,q5⟩:=g2
    refine ⟨q.step (fun c o ec e=>k.get (fun q=>hne (by rw [ec,q])) e) st fun V V V e=>e,b,eb,q3,q4,q5⟩
 ·
  have back: ∀{y u} {dy:D},zAE y (zBV x (.own d') fr)=some (.own dy)→Holds env s'.heap m y u→Holds env s.heap m y u∧∃dy',zAE y fr=some (.own dy'):=fun {y u dy} e g=>by
   have e': ∃dy',zAE y fr=some (.own dy'):=by
    rw [zAT] at e
    by_cases hyx:y=x
    ·exact ⟨d,by rw [hyx]; exact hf⟩
    ·rw [if_neg hyx] at e; exact ⟨dy,e⟩
   obtain ⟨dy',e'⟩:=e'
   obtain ⟨u',g',_⟩:=hs y _ e' g.kind
   rw [g.inj (hh g')]
   exact ⟨g',dy',e'⟩
  have e3:=zDj hm2 hm2
  obtain ⟨g3,dy',e4⟩:=back e1 g1
  obtain ⟨g4,dz',e5⟩:=back e2 g2
  exact hp ht y z dy' dz' p u hyz e4 e5 g3 g4
end
section
variable {prog:Program} {w:World} {G:Heap} {ga:Addr×Addr} {A:Around} {env:Env} {Z X O:Addr→Prop} {tg:Option (List Nat)} {fr:Frm} {s s':Shared} {n:Nat}
theorem zKI {Q:Value→Shared→Prop} {E:Value→Shared→Prop} {x:Nat} {sl:Slot} (F:FrW w G env Z X O tg fr s) (hk:zBc (env.scope.names.lookup (nm x))=true) (h:zAE x fr=some sl)
  (hQ: ∀v m,s.heap.Ns env.locals m→Holds env s.heap m x v→zJJ w Z X O env.locals tg.isNone s.heap v sl→Q v s):wpAny (model prog w) A (loadName env (nm x)) Q E s:=by
 obtain ⟨m,hn,hv,_⟩:=F.names
 obtain ⟨v,hv,r⟩:=hv x sl h (zAx hk)
 have hq:=hQ v m hn hv r
 rcases hv with ⟨h1,h2⟩ | ⟨h1,c,h2,h3⟩
 ·exact wpAny_loadName_local F.kind h1 hn h2 hq
 ·exact wpAny_loadName_cell F.kind h1 h2 h3 hq
theorem zEC {E:Value→Shared→Prop} {Q:Unit→Shared→Prop} {x:Nat} {v:Value} {d:D} (F:FC w G ga A env Z X O none fr s n) (hx:zBc (env.scope.names.lookup (nm x))=true) (r:RdW (PP Z X O) s.heap v d)
  (hQ: ∀s',zAC O s s'→FC w G ga A env Z X O none (zBV x (.val d) fr) s' n→Q () s'):wpAny (model prog w) A (storeName env (nm x) v) Q E s:=
 F.fw.store (sl:= .val d) (zAx hx) trivial r (fun V e=>by cases e) fun s' kb f=>hQ s' kb (F.to kb f)
theorem zKC {o:Option Slot} {d:D} (h:zPr o=some d):o=some (.val d):=by
 induction o with
 | none=>cases h
 | some sl=>induction sl with
  | val d'=>cases h; rfl
  | own d'=>cases h
theorem zEI {τ:Type} {x:Nat} {f:List D→Option τ} {r:τ} (h:zLk x fr f=some r): ∃l,zAE x fr=some (.own (.list l))∧f l=some r:=by
 obtain ⟨sl,h1,h⟩:=zAB (show bnd (zAE x fr) (fun s=>Slot.rec (motive:=fun V=>Option τ) (fun V=>none) (fun a=>zAz a f none) s)=some r from h)
 induction sl with
 | val d'=>cases h
 | own d'=>
  obtain ⟨l,rfl,h2⟩:=zBl (show zAz d' f none=some r from h)
  exact ⟨l,h1,h2⟩
theorem zKB {τ:Type} {x:Nat} {f:List (D×D)→Option τ} {r:τ} (h:ownD x fr f=some r): ∃l,zAE x fr=some (.own (.dict l))∧f l=some r:=by
 obtain ⟨sl,h1,h⟩:=zAB (show bnd (zAE x fr) (fun s=>Slot.rec (motive:=fun V=>Option τ) (fun V=>none) (fun a=>zEJ a f none) s)=some r from h)
 induction sl with
 | val d'=>cases h
 | own d'=>
  induction d' using PyData.casesOn with
  | dict l=>exact ⟨l,h1,h⟩
  | _=>cases h
theorem zBM {τ:Type} {i:D} {f:Int→Option τ} {r:τ} (h:zAO i f none=some r): ∃k,i= .int k∧f k=some r:=by
 induction i using PyData.casesOn with
 | int k=>exact ⟨k,rfl,h⟩
 | _=>cases h
theorem zCx {op:Operator} {va vb:Value} {a b d:D} {P:Addr→Prop} {Q:Value→Shared→Prop} {E:Value→Shared→Prop} (ho:zKE op=true) (h:zAO a (fun V=>zJN op a b) none=some d) (ra:RdW P s.heap va a) (rb:RdW P s.heap vb b)
  (hQ: ∀v s',Keeps s s'→RdW P s'.heap v d→Q v s'):wpAny (model prog w) A (inplaceOp op va vb) Q E s:=by
 induction a using PyData.casesOn with
 | int x=>
  have h:zJN op (.int x) b=some d:=h
  cases op <;> first | (exact absurd ho Bool.false_ne_true) | skip
  ·induction b using PyData.casesOn with
   | int y=>
    have e:zCo (Int.add x y)=some d:=h
    rw [zAZ] at e; cases e
    obtain ⟨t,rfl⟩:=ra.intInv; obtain ⟨u,rfl⟩:=rb.intInv
    exact AutoIntOps.iadd_0 (zAM hQ _ _)
   | _=>cases h
  ·induction b using PyData.casesOn with
   | int y=>
    have e:zCo (Int.sub x y)=some d:=h
    rw [zAZ] at e; cases e
    obtain ⟨t,rfl⟩:=ra.intInv; obtain ⟨u,rfl⟩:=rb.intInv
    exact AutoIntOps.isub_0 (zAM hQ _ _)
   | _=>cases h
 | _=>cases h
theorem zCu {α:Type}: ∀{l l':List α} {n:Nat} {x:α},zJL n x l=some l'→n < l.length∧l'=l.set n x
 | [],_,_,_,h=>by cases h
 | a :: r,l',0,x,h=>by
  cases (show some (x :: r)=some l' from h)
  exact ⟨Nat.succ_pos _,rfl⟩
 | a :: r,l',n + 1,x,h=>by
  obtain ⟨r',h1,h2⟩:=zAB (show bnd (zJL n x r) (fun r=>some (a :: r))=some l' from h)
  cases h2
  obtain ⟨h3,rfl⟩:=zCu h1
  exact ⟨Nat.succ_lt_succ h3,rfl⟩
theorem zDi {b:Addr} (h:O b):PP Z X O b:= .inr (.inr h)
theorem zGP {x:Nat} {i d:D} {a:Addr} {vi vd:Value} {m:Str→Option Value} {fl:Fl} {Q:Unit→Shared→Prop} {E:Value→Shared→Prop} (F:FC w G ga A env Z X O none fr s n) (h:zEr x i d fr=some fl) (hm:s.heap.Ns env.locals m) (hv:Holds env s.heap m x (.ref a))
  (ri:RdW (PP Z X O) s.heap vi i) (rd:RdW (PP Z X O) s.heap vd d) (hQ: ∀s' fr',fl= .next fr'→zAC O s s'→FC w G ga A env Z X O none fr' s' n→Q () s'):wpAny (model prog w) A (setItem (.ref a) vi vd) Q E s:=by
 obtain ⟨sl,h1,h⟩:=zAB (show bnd (zAE x fr) _=some fl from h)
 induction sl with
 | val d'=>cases h
 | own d'=>
  obtain ⟨m',hm',hs,_⟩:=F.fw.names
  have:=zDj hm hm'; subst this
  obtain ⟨v',g1,g2,b,eb,g3,g4,g5⟩:=hs x _ h1 hv.kind
  have e1:=hv.inj g1
  rw [eb] at e1; cases e1
  rw [eb] at g2
  have hO:O a:=g4 rfl
  induction d' using PyData.casesOn with
  | list l=>
   obtain ⟨i,rfl,h⟩:=zBM (show zAO i _ none=some fl from h)
   induction i with
   | ofNat k=>
    obtain ⟨h2,h⟩:=zAD (show zAA (zAI l) (bnd (zJL k d l) fun l=>zAy x (.own (.list l)) fr) none=some fl from h)
    obtain ⟨l',h3,h4⟩:=zAB h
    have h4:zDL x (.own (.list l')) fr (fun fr=>some (Fl.next fr))=some fl:=h4
    rw [zAb] at h4
    cases h4
    obtain ⟨h5,rfl⟩:=zCu h3
    obtain ⟨b,vs,c,eb,g,r⟩:=g2
    cases eb
    obtain ⟨t,rfl⟩:=ri.intInv
    have hl:vs.size=l.length:=by rw [←r.length]; simp
    refine zEF (k:=k) g (by rw [hl]; exact zAH h2) (by rw [hl]; exact h5) fun h' c' e hsb=> ?_
    have kb:zAC (· =a) s {s with heap:=h'}:=zAC.same hsb rfl
    have hP: ∀b,b=a→PP Z X O b:=fun b e=>by rw [e]; exact zDi hO
    have rr:=(r.keepBut kb hP).set (rd.keepBut kb hP) k
    obtain ⟨kO,F'⟩:=F.upd (d':= .list (l.set k d)) h1 hm hv kb ⟨a,_,c',rfl,e,by simpa using rr⟩
    exact hQ _ _ rfl kO F'
   | negSucc k=>cases h
  | dict kvs=>
   obtain ⟨h2,h⟩:=zAD (show zAA (zAe i) (zAA (zEq kvs) (zAA (zAI kvs) (zAy x (.own (.dict (zEi i d kvs))) fr) none) none) none=some fl from h)
   obtain ⟨h3,h⟩:=zAD h
   obtain ⟨h4,h5⟩:=zAD h
   have h5:zDL x (.own (.dict (zEi i d kvs))) fr (fun fr=>some (Fl.next fr))=some fl:=h5
   rw [zAb] at h5
   cases h5
   obtain ⟨b,eb,r⟩:=g2
   cases eb
   refine zMr F.cx.units r h3 (zAH h4) (zDi hO) ri h2 rd fun h' tk r' hsb=> ?_
   have kb:zAC (· =a) s {s with heap:=h',toks:=tk}:=zAC.same hsb rfl
   obtain ⟨kO,F'⟩:=F.upd (d':= .dict (zEi i d kvs)) h1 hm hv kb ⟨a,rfl,r'⟩
   exact hQ _ _ rfl kO F'
  | _=>cases h
end
section
variable {prog:Program} {w:World} {G:Heap} {ga:Addr×Addr} {mg:Str→Option Value} {gcx:Nat→Option D} {call:Nat→List D→Option D} {rc:Nat}
theorem zIp {env:Env} {s s':Shared} {m:Str→Option Value} {x:Nat} {v:Value} (k:Keeps s s') (hm:s.heap.Ns env.locals m) (hv:Holds env s.heap m x v):s'.heap.Ns env.locals m∧Holds env s'.heap m x v:=by
 obtain ⟨h',tk,rfl,k⟩:=k
 exact ⟨hm.keeps k,hv.keep k⟩
theorem zGa {O1 O:Addr→Prop} {s s1 s2:Shared} (hO: ∀a,O1 a→O a) (k1:Keeps s s1) (k2:zAC O1 s1 s2):zAC O s s2:=(zAC.of (O:=O) k1).trans k2 fun a V V h=>hO a h
theorem zNw {x:Nat} {xp p:Pos} {op:Operator} {e:E} (ae:zEk prog w G ga gcx call rc e):SS prog w G ga gcx call rc (.augN x xp op e p):=by
 intro A env Z X O fr s Q E fl F hk h hQ
 obtain ⟨k1,k2⟩:=zAN (show zAA (zFz env.scope x) (zAA ((Ck e).k env.scope) (zKE op) false) false=true from hk)
 obtain ⟨k2,k3⟩:=zAN k2
 obtain ⟨a,h1,h⟩:=zAB (show bnd (zPr (zAE x fr)) (fun a=>bnd ((Ev gcx call e).v fr) fun b=>zAO a (fun V=>bnd (zJN op a b) fun d=>zAy x (.val d) fr) none)=some fl from h)
 obtain ⟨b,h2,h⟩:=zAB h
 obtain ⟨ai,rfl,h⟩:=zBM h
 obtain ⟨d,h3,h⟩:=zAB h
 have h:zDL x (.val d) fr (fun fr=>some (Fl.next fr))=some fl:=h
 rw [zAb] at h
 cases h
 refine wpAny_AugAssign_Name (zKI F.fw k1 (zKC h1) fun v m hm hv r=> ?_)
 refine ae.se.v A env _ fr s _ E b F.cx k2 h2 fun vb s₁ q1 r1=> ?_
 have r:RdW (PP Z X O) s.heap v (.int ai):=r
 refine zCx (a:= .int ai) k3 h3 (RdW.keeps r q1) r1 fun u s₂ q2 r2=> ?_
 refine zEC ((F.keeps q1).keeps q2) k1 r2 fun s₃ k3 f=> ?_
 exact hQ _ s₃ O (zGa (fun V h=>h) (Keeps.trans q1 q2) k3) (zCX.sub fun V h=>h) ⟨rfl,f⟩
theorem zGG {e:E} {o i:Expr} {sp:Pos} (hd: ∀k v g tg sc p,e≠ .dco k v g tg sc p) (hr: ∀x,e≠ .raw x) (l:Nat) (env:Env):swapsWith (up nm e) (some (.Subscript o i sp)) l env=pure false:=by
 cases e <;> first | rfl | exact absurd rfl (hd _ _ _ _ _ _) | exact absurd rfl (hr _)
theorem zKH {e:E} {fr:Frm} {d:D} (h:(Ev gcx call e).v fr=some d): ∀k v g tg sc p,e≠ .dco k v g tg sc p:=fun k v g tg sc p q=>by subst q; cases h
theorem zNy {x:Nat} {xp sp p:Pos} {i e:E} {z:List Nat} (ai:zEk prog w G ga gcx call rc i) (ae:zEk prog w G ga gcx call rc e):SS prog w G ga gcx call rc (.asgS x xp i sp e z p):=by
 intro A env Z X O fr s Q E fl F hk h hQ
 obtain ⟨k1,k2⟩:=zAN (show zAA (zFz env.scope x) (zAA ((Ck i).k env.scope) (zAA ((Ck e).k env.scope) (zEm (zQI i)) false) false) false=true from hk)
 obtain ⟨k2,k3⟩:=zAN k2
 obtain ⟨k3,k4⟩:=zAN k3
 obtain ⟨O1,hO1,F1⟩:=F.frz z
 obtain ⟨d,h1,h⟩:=zAB (show bnd ((Ev gcx call e).v (frz z fr)) (fun d=>bnd ((Ev gcx call i).v (frz z fr)) fun i=>zEr x i d (frz z fr))=some fl from h)
 obtain ⟨di,h2,h⟩:=zAB h
 have hst:=h
 obtain ⟨sl,h3,_⟩:=zAB (show bnd (zAE x (frz z fr)) _=some fl from h)
 have hsl: ∃d',sl= .own d':=by
  induction sl with
  | own d'=>exact ⟨d',rfl⟩
  | val d'=>rw [zEr,h3] at h; cases h
 obtain ⟨d',rfl⟩:=hsl
 refine wpAny_Assign_Subscript ?_ (zGG (zKH h1) (zAk h1) _ _)
 refine ae.se.v A env _ _ s _ E d F1.cx k3 h1 fun vd s₁ q1 r1=> ?_
 refine zAh (F1.keeps q1).fw k1 h3 fun v m hm hv r=> ?_
 obtain ⟨_,a,rfl,_⟩:=r
 refine ai.se.v A env _ _ s₁ _ E di (F1.keeps q1).cx k2 h2 fun vi s₂ q2 r2=> ?_
 obtain ⟨hm2,hv2⟩:=zIp q2 hm hv
 refine zGP ((F1.keeps q1).keeps q2) hst hm2 hv2 r2 (RdW.keeps r1 q2) fun s₃ fr' e1 k f=> ?_
 subst e1
 exact hQ _ s₃ O1 (zGa hO1 (Keeps.trans q1 q2) k) (zCX.sub hO1) ⟨rfl,f⟩
theorem zKw {i:E} (h:zEm (zQI i)=true) (hr: ∀x,i≠ .raw x): ∀ov iv new,augStore (up nm i) ov iv new=(do holding [new,ov,iv] (setItem ov iv new); release [new,ov,iv] []; pure .next):=by
 intro ov iv new
 cases i <;> first | rfl | exact absurd rfl (hr _) | (exact absurd h Bool.false_ne_true)
theorem zGV {o:Option Slot} {d:D} (h:zPs o=some d):o=some (.val d)∨o=some (.own d):=by
 induction o with
 | none=>cases h
 | some sl=>induction sl with
  | val d'=>cases h; exact .inl rfl
  | own d'=>cases h; exact .inr rfl
theorem zNv {x:Nat} {xp sp p:Pos} {op:Operator} {i e:E} (ai:zEk prog w G ga gcx call rc i) (ae:zEk prog w G ga gcx call rc e):SS prog w G ga gcx call rc (.augS x xp i sp op e p):=by
 intro A env Z X O fr s Q E fl F hk h hQ
 obtain ⟨k1,k2⟩:=zAN (show zAA (zFz env.scope x) (zAA ((Ck i).k env.scope) (zAA ((Ck e).k env.scope) (zAA (zEm (zQI i)) (zKE op) false) false) false) false=true from hk)
 obtain ⟨k2,k3⟩:=zAN k2
 obtain ⟨k3,k4⟩:=zAN k3
 obtain ⟨k4,k5⟩:=zAN k4
 obtain ⟨a,h1,h⟩:=zAB (show bnd (zPs (zAE x fr)) (fun a=>bnd ((Ev gcx call i).v fr) fun i=>bnd (zLO a i) fun a=>bnd ((Ev gcx call e).v fr) fun b=>zAO a (fun V=>bnd (zJN op a b) fun d=>zEr x i d fr) none)=some fl from h)
 obtain ⟨di,h2,h⟩:=zAB h
 obtain ⟨a',h4,h⟩:=zAB h
 obtain ⟨b,h5,h⟩:=zAB h
 obtain ⟨n,rfl,h⟩:=zBM h
 obtain ⟨d,h6,hst⟩:=zAB h
 have hown:zAE x fr=some (.own a):=by
  rcases zGV h1 with h | h
  ·obtain ⟨sl,h3,h7⟩:=zAB (show bnd (zAE x fr) _=some fl from hst)
   rw [h] at h3; cases h3; cases h7
  ·exact h
 refine wpAny_AugAssign_SubscriptAny ?_ (zKw k4 (zAk h2))
 refine zAh F.fw k1 hown fun v m hm hv r=> ?_
 obtain ⟨ow,l,rfl,_⟩:=r
 refine ai.se.v A env _ _ s _ E di F.cx k2 h2 fun vi s₁ q1 r1=> ?_
 refine zBe h4 (.inr (ow.keep fun V V e=>Keeps.get q1 e)) r1 (F.keeps q1).cx.units fun vo s₂ q2 r2=> ?_
 refine ae.se.v A env _ _ s₂ _ E b ((F.keeps q1).keeps q2).cx k3 h5 fun vb s₃ q3 r3=> ?_
 refine zCx (a:= .int n) k5 h6 (RdW.keeps r2 q3) r3 fun u s₄ q4 r4=> ?_
 have q14:=Keeps.trans (Keeps.trans q1 q2) (Keeps.trans q3 q4)
 obtain ⟨hm2,hv2⟩:=zIp q14 hm hv
 refine zGP (F.keeps q14) hst hm2 hv2 (RdW.keeps r1 (Keeps.trans q2 (Keeps.trans q3 q4))) r4 fun s₅ fr' e1 k f=> ?_
 subst e1
 exact hQ _ s₅ O (zGa (fun V h=>h) q14 k) (zCX.sub fun V h=>h) ⟨rfl,f⟩
theorem zNs {x y:Nat} {xp yp mp cp p:Pos}:SS prog w G ga gcx call rc (.popL x xp y yp mp cp p):=by
 intro A env Z X O fr s Q E fl F hk h hQ
 obtain ⟨k1,k2⟩:=zAN (show zAA (zFz env.scope x) (zAA (zFz env.scope y) (zAA (Nat.beq mp.endLine cp.line) (zEm (Nat.beq x y)) false) false) false=true from hk)
 obtain ⟨k2,k3⟩:=zAN k2
 obtain ⟨k3,k4⟩:=zAN k3
 obtain ⟨l,h1,h⟩:=zEI (show zLk y fr (fun l=>zAA (zAI l) (onL (rev l) none fun d r=>zDL y (.own (.list (rev r))) fr fun fr=>zAy x (.val d) fr) none)=some fl from h)
 obtain ⟨h2,h⟩:=zAD h
 cases er:rev l with
 | nil=>rw [er] at h; cases h
 | cons d r=>
  rw [er] at h
  have h:zDL y (.own (.list (rev r))) fr (fun fr=>zAy x (.val d) fr)=some fl:=h
  rw [zAb] at h
  have h:zDL x (.val d) (zBV y (.own (.list (rev r))) fr) (fun fr=>some (Fl.next fr))=some fl:=h
  rw [zAb] at h
  cases h
  have hl:l=rev r++[d]:=by
   have e:=congrArg List.reverse (by rw [←zEt]; exact er:l.reverse=d :: r)
   rw [List.reverse_reverse,List.reverse_cons] at e
   rw [e,zEt]
  refine zCU rfl rfl rfl ?_
  refine wpAny_Call_method (T:="list") (id:="list.pop") rfl rfl (by rw [Nat.eq_of_beq_eq_true k3]; simp) PySem.F.plainAttrs_list PySem.F.slot_list_pop PySem.F.type_list_pop
   (zAh F.fw k2 h1 fun v m hm hv r1=> ?_)
  obtain ⟨⟨a,vs,c,eb,g,rs⟩,b,rfl,_,ho,hne⟩:=r1
  cases eb
  have hO:O a:=ho rfl
  refine ⟨⟨_,g,rfl⟩,fun a' e=>(by cases e; exact ⟨_,g,rfl⟩),Calls.callWith_builtin rfl (PySem.evalArgs_none ?_)⟩
  show wpAny _ A (PySem.call (.builtin "list.pop") [.ref a]) _ _ _
  have hsz:vs.size=l.length:=by rw [←rs.length]; simp
  have hne2:vs.toList≠[]:=fun e=>by
   have:=rs.length
   rw [e,hl] at this; simp at this
  have hvs:vs.toList=vs.toList.dropLast++[vs.toList.getLast hne2]:=(List.dropLast_concat_getLast hne2).symm
  refine zJx g (by rw [hsz]; exact zAH h2) hvs fun h' vs' c' g' ev hsb=> ?_
  have kb:zAC (· =a) s {s with heap:=h'}:=zAC.same hsb rfl
  have hP: ∀b,b=a→PP Z X O b:=fun b e=>by rw [e]; exact zDi hO
  have rr:=rs.keepBut kb hP
  have hlen:(rev r).length=vs.toList.dropLast.length:=by
   have:=rs.length
   rw [hl] at this; simp at this; rw [List.length_dropLast]; simp; lia
  have r1:=rr.take (rev r).length
  have r2:=rr.drop (rev r).length
  rw [hl,List.take_left] at r1
  rw [hl,List.drop_left] at r2
  rw [hvs,hlen,List.take_left] at r1
  rw [hvs,hlen,List.drop_left] at r2
  obtain ⟨kO,F'⟩:=F.upd (d':= .list (rev r)) h1 hm hv kb ⟨a,vs',c',rfl,g',by rw [ev]; exact r1⟩
  cases r2 with
  | cons r3 _=>
  show wpAny _ A (assign (.Name (nm x) xp) env _) _ E _
  refine wpAny_assign_Name (zEC F' k1 r3 fun s₃ k3 f=> ?_)
  exact hQ _ s₃ O (kO.trans k3 fun V V V h=>h) (zCX.sub fun V h=>h) ⟨rfl,f⟩
end
section
variable {prog:Program} {w:World} {G:Heap} {ga:Addr×Addr} {mg:Str→Option Value} {gcx:Nat→Option D} {call:Nat→List D→Option D} {rc:Nat}
theorem zNt {x y:Nat} {xp yp mp cp p:Pos} {k e:E} (ak:zEk prog w G ga gcx call rc k) (ae:zEk prog w G ga gcx call rc e):SS prog w G ga gcx call rc (.popD x xp y yp mp k e cp p):=by
 intro A env Z X O fr s Q E fl F hk h hQ
 obtain ⟨k1,k2⟩:=zAN (show zAA (zFz env.scope x) (zAA (zFz env.scope y) (zAA (Nat.beq mp.endLine cp.line) (zAA (zEm (Nat.beq x y)) (zAA ((Ck k).k env.scope) ((Ck e).k env.scope) false) false) false) false) false=true from hk)
 obtain ⟨k2,k3⟩:=zAN k2
 obtain ⟨k3,k4⟩:=zAN k3
 obtain ⟨k4,k5⟩:=zAN k4
 obtain ⟨k5,k6⟩:=zAN k5
 obtain ⟨kvs,h1,h⟩:=zKB (show ownD y fr (fun kvs=>bnd ((Ev gcx call k).v fr) fun k=>bnd ((Ev gcx call e).v fr) fun e=>zAA (zAe k) (zAA (zEq kvs) (zAA (zAI kvs)
   (zDL y (.own (.dict (zKo k kvs))) fr fun fr=>zAy x (.val (Option.rec (motive:=fun V=>D) e (fun d=>d) (zBt k kvs))) fr) none) none) none)=some fl from h)
 obtain ⟨dk,h2,h⟩:=zAB h
 obtain ⟨de,h3,h⟩:=zAB h
 obtain ⟨h4,h⟩:=zAD h
 obtain ⟨h5,h⟩:=zAD h
 obtain ⟨h6,h⟩:=zAD h
 rw [zAb] at h
 generalize hd:(Option.rec (motive:=fun V=>D) de (fun d=>d) (zBt dk kvs):D)=d at h
 have h:zDL x (.val d) (zBV y (.own (.dict (zKo dk kvs))) fr) (fun fr=>some (Fl.next fr))=some fl:=h
 rw [zAb] at h
 cases h
 refine zCU rfl rfl rfl ?_
 have hl:(Ev gcx call (.cons k (.cons e .nil))).l fr=some [dk,de]:=by
  show bnd ((Ev gcx call k).v fr) (fun d=>bnd (bnd ((Ev gcx call e).v fr) fun d=>bnd (some []) fun ds=>some (d :: ds)) fun ds=>some (d :: ds))=_
  rw [h2,h3]; rfl
 have kl:(Ck (.cons k (.cons e .nil))).k env.scope=true:=by
  show zAA ((Ck k).k env.scope) (zAA ((Ck e).k env.scope) true false) false=true
  rw [k5,k6]; rfl
 refine wpAny_Call_method (T:="dict") (id:="dict.pop") (args:=ups nm (.cons k (.cons e .nil))) rfl (zKg hl rfl) (by rw [Nat.eq_of_beq_eq_true k3]; simp) PySem.F.plainAttrs_dict PySem.F.slot_dict_pop PySem.F.type_dict_pop
  (zAh F.fw k2 h1 fun v m hm hv r1=> ?_)
 obtain ⟨⟨a,eb,r⟩,b,rfl,_,ho,hne⟩:=r1
 cases eb
 have hO:O a:=ho rfl
 obtain ⟨o',es,ep,ho',hc',_⟩:=r.at
 refine ⟨⟨o',ho',hc'.1⟩,fun a' ea=>(by cases ea; exact ⟨o',ho',hc'.2.1⟩),zFa (zHL ak.se (zHL ae.se zNK)) F.cx kl hl fun vas s₁ q1 r2=> ?_⟩
 cases r2 with
 | cons r3 rn=>
  cases rn with
  | cons r4 rn=>
   cases rn
   have hsh:kvs.length≤100000:=zAH h6
   refine zMs (F.keeps q1).cx.units (r.keep fun V V ea=>Keeps.get q1 ea) h5 hsh (zDi hO) r3 h4 r4 fun u h' tk ru rr hsb=> ?_
   rw [hd] at ru
   have kb:zAC (· =a) s₁ {s₁ with heap:=h',toks:=tk}:=zAC.same hsb rfl
   obtain ⟨hm2,hv2⟩:=zIp q1 hm hv
   obtain ⟨kO,F'⟩:=(F.keeps q1).upd (d':= .dict (zKo dk kvs)) h1 hm2 hv2 kb ⟨a,rfl,rr⟩
   show wpAny _ A (assign (.Name (nm x) xp) env _) _ E _
   refine wpAny_assign_Name (zEC F' k1 ru fun s₃ k3 f=> ?_)
   exact hQ _ s₃ O (zGa (fun V h=>h) q1 (kO.trans k3 fun V V V h=>h)) (zCX.sub fun V h=>h) ⟨rfl,f⟩
theorem zBE {env:Env} (h:env.scope.kind= .function):interactive env=false:=by
 unfold interactive; rw [h]; rfl
theorem zPV {x:Nat} {xp mp cp p:Pos} {m:Mth} {l:E} {z:List Nat} (al:zEk prog w G ga gcx call rc l):SS prog w G ga gcx call rc (.mth x xp m mp l cp z p):=by
 intro A env Z X O fr s Q E fl F hk h hQ
 obtain ⟨k1,k2⟩:=zAN (show zAA (zFz env.scope x) (zAA ((Ck l).k env.scope) (zAA (Nat.beq mp.endLine cp.line) (Nat.ble (Ck l).n 20) false) false) false=true from hk)
 obtain ⟨k2,k3⟩:=zAN k2
 obtain ⟨k3,k4⟩:=zAN k3
 obtain ⟨O1,hO1,F1⟩:=F.frz z
 obtain ⟨ds,h1,h⟩:=zAB (show bnd ((Ev gcx call l).l (frz z fr)) (fun ds=>mthR m x (frz z fr) ds)=some fl from h)
 obtain ⟨xs,h2,h⟩:=zEI (show zLk x (frz z fr) _=some fl from h)
 refine wpAny_Expr_any ?_ (zBE F.fw.kind) rfl
 have go: ∀{id:String},PySem.Slot "list" m.name id→(typeOf (.builtin id)=pure (.type "method_descriptor"))→
   (∀a vs c vas s₁,s₁.heap.get? a=some (zBz vs c)→zAK (PP Z X O1) s₁.heap vs.toList xs→¬(PP Z X O1) a∨O1 a→zAK (PP Z X O1) s₁.heap vas ds→(∀b,b=a→PP Z X O1 b)→
    (∀h' tk vs' c' xs',h'.get? a=some (zBz vs' c')→Heap.SameBut a s₁.heap h'→zAK (PP Z X O1) h' vs'.toList xs'→fl= .next (zBV x (.own (.list xs')) (frz z fr))→Q .next {s₁ with heap:=h',toks:=tk})→
    wpAny (model prog w) A (PySem.call (.builtin id) (.ref a :: vas)) (fun V=>Q .next) E s₁)→
   wpAny (model prog w) A (eval (.Call (.Attribute (.Name (nm x) xp) m.name mp) (ups nm l) [] cp) env) (fun V=>Q .next) E s:=fun {id} sl ty body=>by
  refine wpAny_Call_method (T:="list") (id:=id) rfl (zKg h1 k4) (by rw [Nat.eq_of_beq_eq_true k3]; simp) PySem.F.plainAttrs_list sl ty
   (zAh F1.fw k1 h2 fun v mm hm hv r1=> ?_)
  obtain ⟨⟨a,vs,c,eb,g,rs⟩,b,rfl,_,ho,hne⟩:=r1
  cases eb
  have hO:O1 a:=ho rfl
  refine ⟨⟨_,g,rfl⟩,fun a' e=>(by cases e; exact ⟨_,g,rfl⟩),zFa al.sl F1.cx k2 h1 fun vas s₁ q1 r2=> ?_⟩
  refine body a vs c vas s₁ (Keeps.get q1 g) (zAK.keeps rs q1) (.inr hO) r2 (fun b e=>by rw [e]; exact zDi hO) fun h' tk vs' c' xs' g' hsb r3 e=> ?_
  obtain ⟨hm2,hv2⟩:=zIp q1 hm hv
  have kb:zAC (· =a) s₁ {s₁ with heap:=h',toks:=tk}:=zAC.same hsb rfl
  obtain ⟨kO,F'⟩:=(F1.keeps q1).upd (d':= .list xs') h2 hm2 hv2 kb ⟨a,vs',c',rfl,g',r3⟩
  subst e
  exact hQ _ _ O1 (zGa hO1 q1 kO) (zCX.sub hO1) ⟨rfl,F'⟩
 induction m with
 | append=>
  obtain ⟨d,rfl,h⟩:=zAf (show zEj ds (fun d=>zAA (zAI xs) (zAy x (.own (.list (app xs [d]))) (frz z fr)) none)=some fl from h)
  obtain ⟨h3,h⟩:=zAD h
  have h:zDL x (.own (.list (app xs [d]))) (frz z fr) (fun fr=>some (Fl.next fr))=some fl:=h
  rw [zAb] at h
  cases h
  refine go PySem.F.slot_list_append PySem.F.type_list_append fun a vs c vas s₁ g rs V r2 hP fin=> ?_
  cases r2 with
  | cons r3 rn=>
   cases rn
   have hl:vs.size=xs.length:=by rw [←rs.length]; simp
   have:=zAH h3
   refine wpAny_list_append_plain (⟨c,g⟩:s₁.heap.PlainList a vs) (fun h' ⟨c',g'⟩ hsb=> ?_) (by rw [hl,sizeLine_eq]; lia)
   have kb:zAC (· =a) s₁ {s₁ with heap:=h',toks:=s₁.toks}:=zAC.same hsb rfl
   refine fin h' s₁.toks _ c' (app xs [d]) g' hsb ?_ rfl
   rw [zAa,Array.toList_push]
   exact (rs.keepBut kb hP).append (.cons (r3.keepBut kb hP) .nil)
 | extend=>
  obtain ⟨d,rfl,h⟩:=zAf (show zEj ds (fun d=>zAz d (fun m=>zAA (zAI xs) (zAA (zAI m) (zAy x (.own (.list (app xs m))) (frz z fr)) none) none) none)=some fl from h)
  obtain ⟨ms,rfl,h⟩:=zBl h
  obtain ⟨h3,h⟩:=zAD h
  obtain ⟨h4,h⟩:=zAD h
  have h:zDL x (.own (.list (app xs ms))) (frz z fr) (fun fr=>some (Fl.next fr))=some fl:=h
  rw [zAb] at h
  cases h
  refine go PySem.F.slot_list_extend PySem.F.type_list_extend fun a vs c vas s₁ g rs V r2 hP fin=> ?_
  cases r2 with
  | cons r3 rn=>
   cases rn
   obtain ⟨b,us,c2,rfl,g2,_,ru⟩:=r3.listInv
   have hl:vs.size=xs.length:=by rw [←rs.length]; simp
   have hl2:us.size=ms.length:=by
    have:us.toList.length=ms.length:=ru.length
    simpa using this
   have ru:zAK (PP Z X O1) s₁.heap us.toList ms:=ru
   refine zGn g g2 (by rw [hl]; exact zAH h3) (by rw [hl2]; exact zAH h4) fun h' c' g' hsb=> ?_
   have kb:zAC (· =a) s₁ {s₁ with heap:=h',toks:=s₁.toks}:=zAC.same hsb rfl
   refine fin h' s₁.toks _ c' (app xs ms) g' hsb ?_ rfl
   rw [zAa,Array.toList_append]
   exact (rs.keepBut kb hP).append (ru.keepBut kb hP)
 | insert=>
  obtain ⟨i,d,rfl,h⟩:=zDz (show zLV ds (fun i d=>zAO i (fun i=>Int.rec (motive:=fun V=>Option Fl) (fun n=>zAA (zAI xs) (zAA (Nat.ble n (len xs)) (zAy x (.own (.list (app (zBk n xs) (d :: zEZ n xs)))) (frz z fr)) none) none) (fun V=>none) i) none)=some fl from h)
  obtain ⟨i,rfl,h⟩:=zBM h
  induction i with
  | negSucc n=>cases h
  | ofNat n=>
   obtain ⟨h3,h⟩:=zAD (show zAA (zAI xs) (zAA (Nat.ble n (len xs)) (zAy x (.own (.list (app (zBk n xs) (d :: zEZ n xs)))) (frz z fr)) none) none=some fl from h)
   obtain ⟨h4,h⟩:=zAD h
   have h:zDL x (.own (.list (app (zBk n xs) (d :: zEZ n xs)))) (frz z fr) (fun fr=>some (Fl.next fr))=some fl:=h
   rw [zAb] at h
   cases h
   refine go PySem.F.slot_list_insert PySem.F.type_list_insert fun a vs c vas s₁ g rs V r2 hP fin=> ?_
   cases r2 with
   | cons r3 rn=>
    cases rn with
    | cons r4 rn=>
     cases rn
     obtain ⟨t,rfl⟩:=r3.intInv
     have hl:vs.size=xs.length:=by rw [←rs.length]; simp
     have h4:=Nat.le_of_ble_eq_true h4
     rw [zBb] at h4
     refine zGh (k:=n) g (by rw [hl]; exact zAH h3) (by rw [hl]; exact h4) fun h' vs' c' g' ev hsb=> ?_
     have kb:zAC (· =a) s₁ {s₁ with heap:=h',toks:=s₁.toks}:=zAC.same hsb rfl
     refine fin h' s₁.toks vs' c' (app (zBk n xs) (d :: zEZ n xs)) g' hsb ?_ rfl
     rw [zAa,ev,zHw,zFp]
     have rr:=rs.keepBut kb hP
     exact (rr.take n).append (.cons (r4.keepBut kb hP) (rr.drop n))
 | get=>cases h
 | items=>cases h
theorem zPX {e:E} {z:List Nat} {p:Pos} (ae:zEk prog w G ga gcx call rc e):SS prog w G ga gcx call rc (.exp e z p):=by
 intro A env Z X O fr s Q E fl F hk h hQ
 obtain ⟨O1,hO1,F1⟩:=F.frz z
 obtain ⟨d,h1,h⟩:=zAB (show bnd ((Ev gcx call e).v (frz z fr)) (fun d=>zAi d (some (.next (frz z fr))) none)=some fl from h)
 have hfl:d= .none∧fl= .next (frz z fr):=by
  induction d using PyData.casesOn with
  | none=>cases h; exact ⟨rfl,rfl⟩
  | _=>cases h
 obtain ⟨rfl,rfl⟩:=hfl
 have nr:=zAk h1
 have nl:swapsWith (up nm e) none p.line env=pure false:=by
  induction e with
  | lco elt g tg sc pe=>
   obtain ⟨l,_,h2⟩:=zAB (show bnd _ zDk=some PyData.none from h1)
   obtain ⟨_,h3⟩:=zAD (show zAA (zAI l) (some (PyData.list l)) none=some PyData.none from h2)
   cases h3
  | raw x=>exact absurd rfl (nr _)
  | dco k v g tg sc pe=>cases h1
  | _=>rfl
 refine wpAny_Expr_any (ae.se.v A env _ _ s _ E .none F1.cx hk h1 fun v s₁ q1 r1=> ?_) (zBE F.fw.kind) nl
 exact hQ _ s₁ O1 (zAC.of q1) (zCX.sub hO1) ⟨rfl,F1.keeps q1⟩
theorem zPU {e:E} {z:List Nat} {p:Pos} (ae:zEk prog w G ga gcx call rc e):SS prog w G ga gcx call rc (.ret e z p):=by
 intro A env Z X O fr s Q E fl F hk h hQ
 obtain ⟨O1,hO1,F1⟩:=F.frz z
 obtain ⟨d,h1,h⟩:=zAB (show bnd ((Ev gcx call e).o (frz z fr)) (fun d=>some (.ret d))=some fl from h)
 cases h
 have so:=ae.so A env _ _ s (fun v s'=>Q (.ret v) s') E d F1.cx hk h1 fun v s₁ q1 r1=>hQ _ s₁ O1 (zAC.of q1) (zCX.sub hO1) ⟨v,rfl,r1⟩
 cases e with
 | nil=>
  cases (show some PyData.none=some d from h1)
  exact wpAny_Return_none (hQ _ s O1 (zAC.refl s) (zCX.sub hO1) ⟨.none,rfl, .none⟩)
 | cons h t=>exact wpAny_Return_some so
 | _=>cases h1
theorem zPW {t:E} {b o:S} {p:Pos} (at_:zEk prog w G ga gcx call rc t) (sb:SSs prog w G ga gcx call rc b) (so:SSs prog w G ga gcx call rc o):SS prog w G ga gcx call rc (.iff t b o p):=by
 intro A env Z X O fr s Q E fl F hk h hQ
 obtain ⟨k1,k2⟩:=zAN (show zAA ((Ck t).k env.scope) (zAA (Sk b env.scope) (Sk o env.scope) false) false=true from hk)
 obtain ⟨k2,k3⟩:=zAN k2
 obtain ⟨c,h1,h⟩:=zAB (show bnd ((Ev gcx call t).t fr) (fun c=>zAA c ((Ex gcx call b).xs fr) ((Ex gcx call o).xs fr))=some fl from h)
 refine wpAny_If (at_.se.t A env _ fr s _ E c F.cx k1 h1 fun s₁ q1=> ?_)
 have fin: ∀fw s' O',zAC O s₁ s'→zCX O O' s₁→zIW w G ga A env Z X O' rc fl fw s'→Q fw s':=fun fw s' O' k n f=>
  hQ fw s' O' (zGa (fun V h=>h) q1 k) (fun a h=>(n a h).imp id fun e=>by
   cases e':s.heap.get? a with
   | none=>rfl
   | some o=>rw [Keeps.get q1 e'] at e; cases e) f
 induction c with
 | true=>exact sb A env Z X O fr s₁ Q E fl (F.keeps q1) k2 h fin
 | false=>exact so A env Z X O fr s₁ Q E fl (F.keeps q1) k3 h fin
theorem zNu {p:Pos}:SS prog w G ga gcx call rc (.cont p):=by
 intro A env Z X O fr s Q E fl F hk h hQ
 cases (show some (Fl.cont fr)=some fl from h)
 exact wpAny_Continue (hQ _ s O (zAC.refl s) (zCX.sub fun V h=>h) ⟨rfl,F⟩)
theorem zNr:SSs prog w G ga gcx call rc .nil:=by
 intro A env Z X O fr s Q E fl F hk h hQ
 cases (show some (Fl.next fr)=some fl from h)
 exact wpAny_execs_nil (hQ _ s O (zAC.refl s) (zCX.sub fun V h=>h) ⟨rfl,F⟩)
theorem zLb {h t:S} (sh:SS prog w G ga gcx call rc h) (st:SSs prog w G ga gcx call rc t):SSs prog w G ga gcx call rc (.cons h t):=by
 intro A env Z X O fr s Q E fl F hk hh hQ
 obtain ⟨k1,k2⟩:=zAN (show zAA (Sk h env.scope) (Sk t env.scope) false=true from hk)
 obtain ⟨f1,h1,h2⟩:=zAB (show bnd ((Ex gcx call h).x fr) (fun f=>zKD f (Ex gcx call t).xs)=some fl from hh)
 refine wpAny_execs_cons (sh A env Z X O fr s _ E f1 F k1 h1 fun fw s₁ O₁ k n f=> ?_)
 induction f1 with
 | next fr'=>
  obtain ⟨rfl,F'⟩:=f
  refine st A env Z X O₁ fr' s₁ Q E fl F' k2 h2 fun fw s₂ O₂ k' n' f'=> ?_
  obtain ⟨k3,n3⟩:=zAs k n k' n'
  exact hQ fw s₂ O₂ k3 n3 f'
 | cont fr'=>
  cases (show some (Fl.cont fr')=some fl from h2)
  have e:=f.1
  subst e
  exact hQ _ s₁ O₁ k n f
 | ret d=>
  cases (show some (Fl.ret d)=some fl from h2)
  obtain ⟨v,e,r⟩:=id f
  subst e
  exact hQ _ s₁ O₁ k n f
end
section
variable {prog:Program} {w:World} {G:Heap} {ga:Addr×Addr} {mg:Str→Option Value} {gcx:Nat→Option D} {call:Nat→List D→Option D} {rc:Nat}
theorem zPR {t:E} {b:S} {p:Pos} (at_:zEk prog w G ga gcx call rc t) (sb:SSs prog w G ga gcx call rc b):SS prog w G ga gcx call rc (.whl t b p):=by
 intro A env Z X O fr s Q E fl F hk h hQ
 obtain ⟨k1,k2⟩:=zAN (show zAA ((Ck t).k env.scope) (Sk b env.scope) false=true from hk)
 have h:zGA (Ev gcx call t).t (Ex gcx call b).xs 3000 fr=some fl:=h
 refine wpAny_While (codeAny_whileLoop (fun n s1=>∃O1 fr1,zAC O s s1∧zCX O O1 s∧FC w G ga A env Z X O1 none fr1 s1 rc∧zGA (Ev gcx call t).t (Ex gcx call b).xs n fr1=some fl) (fun n s1 ⟨O1,fr1,ka,na,F1,h1⟩=> ?_) 3000 ⟨O,fr,zAC.refl s,zCX.sub fun V h=>h,F,h⟩)
 cases n with
 | zero=>cases h1
 | succ n=>
  obtain ⟨c,h2,h3⟩:=zAB (show bnd ((Ev gcx call t).t fr1) (fun c=>zAA c (bnd ((Ex gcx call b).xs fr1) fun f=>zGW f (zGA (Ev gcx call t).t (Ex gcx call b).xs n)) (some (.next fr1)))=some fl from h1)
  refine at_.se.t A env _ fr1 s1 _ _ c F1.cx k1 h2 fun s2 q=> ?_
  have ka2:zAC O s s2:=ka.trans (zAC.of (O:=fun V=>False) q) fun V V V x=>x.elim
  cases c with
  | false=>
   cases (show some (Fl.next fr1)=some fl from h3)
   simp only [Bool.false_eq_true,if_false]
   exact wpAny_execs_nil (hQ _ s2 O1 ka2 na ⟨rfl,F1.keeps q⟩)
  | true=>
   simp only [if_true]
   obtain ⟨f,h4,h5⟩:=zAB (show bnd ((Ex gcx call b).xs fr1) (fun f=>zGW f (zGA (Ev gcx call t).t (Ex gcx call b).xs n))=some fl from h3)
   refine sb A env Z X O1 fr1 s2 _ _ f (F1.keeps q) k2 h4 fun fw s3 O3 k3 n3 f3=> ?_
   have n3':zCX O1 O3 s1:=fun a ha=>(n3 a ha).imp id fun e=>by
    cases e':s1.heap.get? a with
    | none=>rfl
    | some o=>rw [Keeps.get q e'] at e; cases e
   obtain ⟨k4,n4⟩:=zAs ka na (zGa (fun V h=>h) q k3) n3'
   cases f with
   | next fr3=>obtain ⟨rfl,F3⟩:=f3; exact ⟨n,Nat.lt_succ_self n,O3,fr3,k4,n4,F3,h5⟩
   | cont fr3=>obtain ⟨rfl,F3⟩:=f3; exact ⟨n,Nat.lt_succ_self n,O3,fr3,k4,n4,F3,h5⟩
   | ret d=>
    cases (show some (Fl.ret d)=some fl from h5)
    obtain ⟨v,e,r⟩:=id f3
    subst e
    exact hQ _ s3 O3 k4 n4 f3
theorem zMi {t:E} {b:S} (st:SN prog w G ga gcx call t) (sb:SSs prog w G ga gcx call rc b) {A:Around} {env:Env} {Z X O:Addr→Prop} {fr:Frm} {s:Shared} {R:Result→Shared→Prop} {I:Addr} {wr rd:Addr→Prop} {items:List D} {St:Nat→(Addr→Prop)→Heap→Prop} {fl:Fl}
  (k1:(Ck t).k env.scope=true) (k2:Sk b env.scope=true) (W:Wk prog w A (up nm t) I wr rd items St) (F:FC w G ga A env Z (fun a=>X a∨wr a) O none fr s rc) (h0:St 0 (PP Z (fun a=>X a∨wr a) O) s.heap)
  (hwX: ∀a,wr a→¬X a) (hrd: ∀a,rd a→(∃o,s.heap.get? a=some o)∧¬wr a∧¬O a) (h:zOm (Ev gcx call t).n (Ex gcx call b).xs items fr=some fl)
  (hR: ∀fw s' O',zAC (fun a=>wr a∨O a) s s'→zCX O O' s→zIW w G ga A env Z X O' rc fl fw s'→R (.ok fw) s'):codeAny (model prog w) A (.forLoop (up nm t) (.ref I) (zCW nm b) [] env) R s:=by
 refine codeAny_forLoop_any (fun n s1=>∃j O1 fr1,n + j=items.length∧zAC (fun a=>wr a∨O a) s s1∧zCX O O1 s∧FC w G ga A env Z (fun a=>X a∨wr a) O1 none fr1 s1 rc∧St j (PP Z (fun a=>X a∨wr a) O1) s1.heap∧
  zOm (Ev gcx call t).n (Ex gcx call b).xs (items.drop j) fr1=some fl) (fun n s1 ⟨j,O1,fr1,hj,ka,na,F1,st1,h1⟩=> ?_) items.length ⟨0,O,fr,rfl,zAC.refl s,zCX.sub fun V h=>h,F,h0,h⟩
 cases n with
 | zero=>
  have e0:items.length=j:=by lia
  refine W.done _ s1 _ _ F1.hand (e0▸st1) fun s2 k=> ?_
  have hnil:items.drop j=[]:=by rw [←e0]; simp
  rw [hnil] at h1
  cases (show some (Fl.next fr1)=some fl from h1)
  dsimp only
  refine wpAny_execs_nil (hR _ s2 O1 (ka.trans k fun a V V h=> .inl h) na ⟨rfl,F1.next (k.mono fun a V V h=> .inr h) (fun a h=> .inl h) fun a h=> ?_⟩)
  obtain ⟨o,ho⟩:=F1.fw.live a (.inr (.inl (.inl h)))
  exact ⟨o,k.get (fun y=>hwX a y h) ho⟩
 | succ n=>
  have hlt:j < items.length:=by lia
  have hdrop:items.drop j=items[j] :: items.drop (j + 1):=List.drop_eq_getElem_cons hlt
  rw [hdrop] at h1
  obtain ⟨fr2,h2,h3⟩:=zAB (show bnd ((Ev gcx call t).n items[j] fr1) (fun fr=>bnd ((Ex gcx call b).xs fr) fun f=>zGW f (zOm (Ev gcx call t).n (Ex gcx call b).xs (items.drop (j + 1))))=some fl from h1)
  obtain ⟨f,h4,h5⟩:=zAB h3
  refine W.nextv (List.getElem?_eq_getElem hlt) F1.fw.live st1 (fun v s₁ h₁=>h₁) fun v s2 k rv st2=> ?_
  have F2:FC w G ga A env Z (fun a=>X a∨wr a) O1 none fr1 s2 rc:=F1.next (k.mono fun a V V h=> .inr h) (fun a h=>h) fun a h=>by
   by_cases hw:wr a
   ·exact (W.live _ _ _ st2 a hw).2
   ·obtain ⟨o,ho⟩:=F1.fw.live a (.inr (.inl h)); exact ⟨o,k.get hw ho⟩
  refine st A env Z (fun a=>X a∨wr a) O1 none fr1 fr2 s2 rc _ _ v items[j] F2 k1 (fun V V=>trivial) h2 rv fun s3 k3 F3=> ?_
  have hrd1: ∀a,rd a→¬O1 a:=fun a ha q=>by
   obtain ⟨⟨o,ho⟩,_,h3⟩:=hrd a ha
   rcases na a q with q | q
   ·exact h3 q
   ·rw [ho] at q; cases q
  have st3:St (j + 1) (PP Z (fun a=>X a∨wr a) O1) s3.heap:=W.frame (j + 1) _ _ s2.heap s3.heap O1 (fun a q=> .inr (.inr q)) (fun a q q'=>(F1.fw.dO a q).2 (.inr q')) (fun a q q'=>hrd1 a q' q) (fun a q=> .inr (.inl (.inr q))) (fun V V V q=>q) st2 fun a o na ho=>k3.get na ho
  have old: ∀a o,s.heap.get? a=some o→O1 a→O a:=fun a o ho q=>(na a q).elim id fun e=>by rw [ho] at e; cases e
  have ka3:zAC (fun a=>wr a∨O a) s s3:=(ka.trans k fun a V V h=> .inl h).trans k3 fun a o ho q=> .inr (old a o ho q)
  refine sb A env Z (fun a=>X a∨wr a) O1 fr2 s3 _ _ f F3 k2 h4 fun fw s4 O4 k4 n4 f4=> ?_
  have ka4:zAC (fun a=>wr a∨O a) s s4:=ka3.trans k4 fun a o ho q=> .inr (old a o ho q)
  have na4:zCX O O4 s:=fun a ha=>by
   rcases n4 a ha with q | q
   ·exact na a q
   ·by_cases hw:wr a
    ·obtain ⟨o,ho⟩:=F3.fw.live a (.inr (.inl (.inr hw))); rw [ho] at q; cases q
    ·by_cases hO:O a
     ·exact .inl hO
     ·cases e:s.heap.get? a with
      | none=>exact .inr rfl
      | some o=>rw [ka3.get (fun y=>y.elim hw hO) e] at q; cases q
  have go: ∀fr4,FC w G ga A env Z (fun a=>X a∨wr a) O4 none fr4 s4 rc→zOm (Ev gcx call t).n (Ex gcx call b).xs (items.drop (j + 1)) fr4=some fl→
    ∃m,m < n + 1∧∃j O1 fr1,m + j=items.length∧zAC (fun a=>wr a∨O a) s s4∧zCX O O1 s∧FC w G ga A env Z (fun a=>X a∨wr a) O1 none fr1 s4 rc∧St j (PP Z (fun a=>X a∨wr a) O1) s4.heap∧zOm (Ev gcx call t).n (Ex gcx call b).xs (items.drop j) fr1=some fl:=fun fr4 F4 h6=>by
   refine ⟨n,Nat.lt_succ_self n,j + 1,O4,fr4,by lia,ka4,na4,F4, ?_,h6⟩
   refine W.frame (j + 1) _ _ s3.heap s4.heap O1 (fun a q=> .inr (.inr q)) (fun a q q'=>(F1.fw.dO a q).2 (.inr q')) (fun a q q'=>hrd1 a q' q) (fun a q=> .inr (.inl (.inr q))) (fun a o ho q=> ?_) st3 fun a o na ho=>k4.get na ho
   rcases q with q | q | q
   ·exact .inl q
   ·exact .inr (.inl q)
   ·rcases n4 a q with q | q
    ·exact .inr (.inr q)
    ·rw [ho] at q; cases q
  cases f with
  | next fr4=>obtain ⟨rfl,F4⟩:=f4; exact go fr4 F4 h5
  | cont fr4=>obtain ⟨rfl,F4⟩:=f4; exact go fr4 F4 h5
  | ret d=>
   cases (show some (Fl.ret d)=some fl from h5)
   obtain ⟨v',e,r⟩:=id f4
   subst e
   refine hR _ s4 O4 ka4 na4 ⟨v',rfl, ?_⟩
   exact r.step (fun V V V e=>e) fun a V V q=>by
    rcases q with q | q | q
    ·exact .inl q
    ·exact .inr (.inl (.inl q))
    ·exact .inr (.inr q)
theorem zEW (x y:Nat): ∀(l:Frm) (sl:Slot),zAE y (zOs x l)=some sl→zAE y l=some sl∧(y=x→∃d,sl= .val d)
 | [],sl,h=>by cases h
 | p :: r,sl,h=>by
  have fc: ∀(q:Nat×Slot) (l:Frm),zAE y (q :: l)=zAA (Nat.beq q.1 y) (some q.2) (zAE y l):=fun V V=>rfl
  have h:zAE y (zAA (Nat.beq p.1 x) (Slot.rec (motive:=fun V=>Frm) (fun V=>p :: r) (fun V=>zNh x r) p.2) (p :: zOs x r))=some sl:=h
  rw [zEx] at h
  by_cases hp:p.1=x
  ·rw [decide_eq_true hp,zAJ] at h
   obtain ⟨px,ps⟩:=p
   cases ps with
   | val d=>
    have h:zAE y ((px,Slot.val d) :: r)=some sl:=h
    refine ⟨h,fun e=> ?_⟩
    rw [fc,zEx,decide_eq_true (hp.trans e.symm),zAJ] at h
    cases h
    exact ⟨d,rfl⟩
   | own d=>
    have h:zAE y (zNh x r)=some sl:=h
    rw [zCT] at h
    by_cases hy:y=x
    ·rw [if_pos hy] at h; cases h
    ·rw [if_neg hy] at h
     rw [fc,zEx,decide_eq_false (fun e=>hy (e.symm.trans hp)),zAF]
     exact ⟨h,fun e=>absurd e hy⟩
  ·rw [decide_eq_false hp,zAF,fc,zEx] at h
   rw [fc,zEx]
   by_cases hy:p.1=y
   ·rw [decide_eq_true hy,zAJ] at h
    rw [decide_eq_true hy,zAJ]
    exact ⟨h,fun e=>absurd (hy.trans e) hp⟩
   ·rw [decide_eq_false hy,zAF] at h
    rw [decide_eq_false hy,zAF]
    exact zEW x y r sl h
theorem zCk (y:Nat) (l:Frm) (sl:Slot): ∀z:List Nat,zAE y (zJB z l)=some sl→zAE y l=some sl∧(y∈z→∃d,sl= .val d)
 | [],h=>⟨h,fun h=>by cases h⟩
 | x :: z,h=>by
  obtain ⟨h1,h2⟩:=zEW x y (zJB z l) sl h
  obtain ⟨h3,h4⟩:=zCk y l sl z h1
  exact ⟨h3,fun hm=>(List.mem_cons.mp hm).elim h2 h4⟩
theorem FC.giveDict {A:Around} {env:Env} {Z X O:Addr→Prop} {fr fr':Frm} {s:Shared} {n:Nat} {x:Nat} {c:Addr} {kvs:List (D×D)} {m:Str→Option Value} (F:FC w G ga A env Z X O none fr s n) (hf:zAE x fr=some (.own (.dict kvs))) (hm:s.heap.Ns env.locals m) (hv:Holds env s.heap m x (.ref c))
  (hfr: ∀y sl,zAE y fr'=some sl→zAE y fr=some sl∧(y=x→∃d,sl= .val d)):FC w G ga A env Z X (fun a=>O a∧a≠c) none fr' s n:=by
 obtain ⟨m',hm',hs,hp⟩:=F.fw.names
 have:=zDj hm hm'; subst this
 obtain ⟨v',h1,⟨b,eb,hr⟩,b',eb',h3,h4,h5⟩:=hs x _ hf hv.kind
 have e1:=hv.inj h1
 rw [eb] at eb'; cases eb'
 rw [eb] at e1; cases e1
 obtain ⟨o,es,ep,ho,_,hd,_⟩:=hr.at
 have cne: ∀n a,env.cells.lookup n=some a→a≠c:=fun n a e q=>by
  obtain ⟨v,o',ho',hd'⟩:=F.fw.ccell n a e
  rw [q,ho] at ho'; cases ho'
  rw [hd] at hd'; cases hd'
 have sub: ∀a,PP Z X (fun a=>O a∧a≠c) a→PP Z X O a:=fun a h=>h.imp id (·.imp id (·.1))
 refine ⟨⟨fun b o e=>⟨(F.fw.glob b o e).1,fun y=>(F.fw.glob b o e).2 (sub b y)⟩,fun b h=>F.fw.live b (sub b h),fun b h=>F.fw.dO b h.1,F.fw.dX,F.fw.kind,⟨F.fw.loc,fun e=>h5 e.symm⟩,F.fw.cells,fun m a e=>(F.fw.cset m a e).imp (fun y=>⟨y,cne m a e⟩) id,F.fw.ccell,F.fw.cinj,
  fun y a g1 g2 g3=>⟨F.fw.cw y a g1 g2 g3,cne _ a g3⟩,m,hm,fun y sl e hy=> ?_,fun ht y z dy dz p u hyz e1 e2=>hp ht y z dy dz p u hyz (hfr y _ e1).1 (hfr z _ e2).1⟩,F.hand,fun b hb y=>F.hp b hb (sub b y),F.gl,F.dep,F.un⟩
 obtain ⟨e1,e2⟩:=hfr y sl e
 obtain ⟨v,g1,g2⟩:=hs y sl e1 hy
 refine ⟨v,g1, ?_⟩
 cases sl with
 | val d=>exact RdW.step (fun V V V e=>e) (fun a V V h=>sub a h) (show RdW (PP Z X O) s.heap v d from g2)
 | own d=>
  have hyx:y≠x:=fun q=>by obtain ⟨d',e3⟩:=e2 q; cases e3
  obtain ⟨q,a,ea,q3,q4,q5⟩:=g2
  have hne:a≠c:=fun q=>hp rfl y x _ _ v (.ref c) hyx e1 hf g1 hv (by rw [ea,q])
  exact ⟨q.step (fun V V V e=>e) (fun V V V e=>e) fun a V V h=>sub a h,a,ea,q3.imp (fun y=>⟨y,hne⟩) id,fun e=>⟨q4 e,hne⟩,q5⟩
theorem zEU {i:E} (hr: ∀x,i≠ .raw x) (env:Env) (x:Value):foldedSetIterable (up nm i) env x=pure x:=by
 cases i <;> first | rfl | exact absurd rfl (hr _)
theorem zHe {A:Around} {env:Env} {Z X O wr:Addr→Prop} {fr:Frm} {s s':Shared} {n:Nat} (F:FC w G ga A env Z X O none fr s n) (k:Keeps s s') (hnew: ∀a,wr a→s.heap.get? a=none) (hlive: ∀a,wr a→∃o,s'.heap.get? a=some o):FC w G ga A env Z (fun a=>X a∨wr a) O none fr s' n:=by
 have nP: ∀a,wr a→¬PP Z X O a:=fun a h q=>by obtain ⟨o,ho⟩:=F.fw.live a q; rw [hnew a h] at ho; cases ho
 refine ⟨F.fw.grow k (fun a o ho h=> ?_) (fun a h=> ?_) (fun a h=>⟨(F.fw.dO a h).1,fun q=>q.elim (F.fw.dO a h).2 fun q=>nP a q (.inr (.inr h))⟩) (fun a q=>q.elim (F.fw.dX a) fun q z=>nP a q (.inl z)) (fun V h=>h) fun V h=>h,(F.keeps k).hand,fun b hb h=> ?_,F.gl,F.dep,F.un⟩
 ·rcases h with h | (h | h) | h
  ·exact .inl h
  ·exact .inr (.inl h)
  ·rw [hnew a h] at ho; cases ho
  ·exact .inr (.inr h)
 ·rcases h with h | (h | h) | h
  ·exact (F.keeps k).fw.live a (.inl h)
  ·exact (F.keeps k).fw.live a (.inr (.inl h))
  ·exact hlive a h
  ·exact (F.keeps k).fw.live a (.inr (.inr h))
 ·rcases h with h | (h | h) | h
  ·exact F.hp b hb (.inl h)
  ·exact F.hp b hb (.inr (.inl h))
  ·obtain ⟨o,ho⟩:=F.hand.liveAt hb; rw [hnew b h] at ho; cases ho
  ·exact F.hp b hb (.inr (.inr h))
theorem ss_fr {t i:E} {b:S} {z:List Nat} {p:Pos} (at_:zEk prog w G ga gcx call rc t) (ai:zEk prog w G ga gcx call rc i) (sb:SSs prog w G ga gcx call rc b):SS prog w G ga gcx call rc (.fr t i b z p):=by
 intro A env Z X O fr s Q E fl F hk h hQ
 obtain ⟨kt,k1⟩:=zAN (show zAA (zAA (zEO i) (zKU t) true) (zAA ((Ck t).k env.scope) (zAA ((Ck i).k env.scope) (zAA (itZ i z) (Sk b env.scope) false) false) false) false=true from hk)
 obtain ⟨k1,k2⟩:=zAN k1
 obtain ⟨k2,k3⟩:=zAN k2
 obtain ⟨k3,k4⟩:=zAN k3
 obtain ⟨O1,hO1,F1⟩:=F.frz z
 obtain ⟨items,h1,h2⟩:=zAB (show bnd ((Ev gcx call i).i (frz z fr)) (fun items=>zOm (Ev gcx call t).n (Ex gcx call b).xs items (zJB z (frz z fr)))=some fl from h)
 have hr: ∀x,i≠ .raw x:=fun x e=>by subst e; cases h1
 refine wpAny_For ?_ (zEU hr env)
 have loop: ∀(rdOk:(Addr→Prop)→Prop) (it:Value) (s':Shared) (O2:Addr→Prop),(∀a,O2 a→O1 a)→FC w G ga A env Z X O2 none (zJB z (frz z fr)) s rc→(∀rd,rdOk rd→∀a,rd a→(∃o,s.heap.get? a=some o)∧¬O2 a)→zLI prog w A (PP Z X O1) (up nm t) items rdOk s it s'→
   codeAny (model prog w) A (.forLoop (up nm t) it (zCW nm b) [] env) (fun r s'=>match r with | .ok f=>Q f s' | .error e=>cameBackBy (model prog w) A env E e s') s':=fun rdOk it s' O2 hO2 F2 hrd m=>by
  obtain ⟨I,wr,rd,St,rfl,k',hnew,hrdOk,W,st⟩:=m
  have hlive: ∀a,wr a→∃o,s'.heap.get? a=some o:=fun a ha=>(W.live _ _ _ st a ha).2
  have F3:=zHe F2 k' hnew hlive
  have nP: ∀a,wr a→¬PP Z X O1 a:=fun a h q=>by obtain ⟨o,ho⟩:=F1.fw.live a q; rw [hnew a h] at ho; cases ho
  refine zMi at_.sn sb k1 k4 W F3 ?_ (fun a ha q=>nP a ha (.inr (.inl q))) (fun a ha=> ?_) h2 fun fw s4 O4 k4 n4 f4=>hQ fw s4 O4 ?_ (fun a ha=> ?_) f4
  ·refine W.frame 0 _ _ s'.heap s'.heap (fun V=>False) (fun V h=>h.elim) (fun V h=>h.elim) (fun V h=>h.elim) (fun a q=> .inr (.inl (.inr q))) (fun a o ho q=> ?_) st fun V V V e=>e
   rcases q with q | (q | q) | q
   ·exact .inl (.inl q)
   ·exact .inl (.inr (.inl q))
   ·exact .inr q
   ·exact .inl (.inr (.inr (hO2 a q)))
  ·obtain ⟨⟨o,ho⟩,h3⟩:=hrd rd hrdOk a ha
   exact ⟨⟨o,Keeps.get k' ho⟩,(fun q=>by rw [hnew a q] at ho; cases ho),h3⟩
  ·refine (zAC.of (O:=O) k').trans k4 fun a o ho q=>q.elim (fun q=>by rw [hnew a q] at ho; cases ho) fun q=>hO1 a (hO2 a q)
  ·rcases n4 a ha with q | q
   ·exact .inl (hO1 a (hO2 a q))
   ·refine .inr ?_
    cases e:s.heap.get? a with
    | none=>rfl
    | some o=>rw [Keeps.get k' e] at q; cases q
 have hneed:zEO i=true→∃elts k pos,up nm t= .Tuple elts k pos:=fun hn=>by
  rw [hn] at kt
  have kt:zKU t=true:=kt
  cases t <;> first | exact ⟨_,_,_,rfl⟩ | cases kt
 cases hme:zIJ i with
 | false=>
  have F2:FC w G ga A env Z X O1 none (zJB z (frz z fr)) s rc:=⟨F1.fw.congr fun x sl h=>(zCk x _ sl z h).1,F1.hand,F1.hp,F1.gl,F1.dep,F1.un⟩
  exact ai.si A env _ _ s _ E items (up nm t) F1.cx k2 hneed h1 fun it s' m=>loop _ it s' O1 (fun V h=>h) F2 (fun rd hrd a ha=>absurd ha (hrd.2 hme a)) m
 | true=>
  obtain ⟨o,m,mp,l,pc,rfl⟩:=zQJ hme h1
  have kz:Option.rec (motive:=fun V=>Bool) false (fun x=>decide (x∈z)) (zDx o)=true:=k3
  cases ho:zDx o with
  | none=>rw [ho] at kz; exact absurd kz Bool.false_ne_true
  | some x=>
   rw [ho] at kz
   have hxz:x∈z:=of_decide_eq_true kz
   obtain ⟨px,rfl⟩:=zCL ho
   obtain ⟨k5,k6⟩:=zAN (show zAA (zAA (zKT (.var x px)) (zAA (Nat.beq mp.endLine pc.line) (Nat.ble (Ck l).n 20) false) false) (zAA ((Ck (.var x px)).k env.scope) ((Ck l).k env.scope) false) false=true from k2)
   obtain ⟨k6,_⟩:=zAN k6
   obtain ⟨_,k5⟩:=zAN k5
   obtain ⟨k5,_⟩:=zAN k5
   obtain ⟨a,h3,h4⟩:=zAB (show bnd (zPs (zAE x (frz z fr))) (fun a=>bnd ((Ev gcx call l).l (frz z fr)) fun ds=>zLo m a ds)=some items from h1)
   obtain ⟨as,h5,h6⟩:=zAB h4
   obtain ⟨rfl,rfl,kvs,rfl,_,h8,rfl⟩:=zEz h6
   obtain ⟨elts,kk,pos,htt⟩:=hneed rfl
   show wpAny _ A (eval (.Call (.Attribute (.Name (nm x) px) (Mth.name .items) mp) (ups nm l) [] pc) env) _ E s
   rw [zQE h5]
   refine wpAny_Call_method (T:="dict") (id:="dict.items") rfl rfl (by rw [Nat.eq_of_beq_eq_true k5]; simp) PySem.F.plainAttrs_dict PySem.F.slot_dict_items PySem.F.type_dict_items ?_
   rcases zGV h3 with h9 | h9
   ·refine zAh F1.fw k6 h9 fun v mm hm hv r=> ?_
    exact absurd (show RdW (PP Z X O1) s.heap v (.dict kvs) from r) (fun r=>nomatch r)
   ·refine zAh F1.fw k6 h9 fun v mm hm hv r=> ?_
    obtain ⟨⟨c,eb,q⟩,c',ec,hOZ,hOc,hne⟩:=r
    subst eb
    cases ec
    obtain ⟨o',es,ep,hoo,hc,_⟩:=q.at
    refine ⟨⟨o',hoo,hc.1⟩,fun a e=>(by cases e; exact ⟨o',hoo,hc.2.1⟩), ?_⟩
    rw [htt] at loop
    refine zER (elts:=elts) (k:=kk) (pos:=pos) q h8 fun it s₂ mk=> ?_
    rw [htt]
    refine loop (fun rd=>rd=(· =c)) it s₂ (fun a=>O1 a∧a≠c) (fun V h=>h.1) (F1.giveDict h9 hm hv fun y sl e=> ?_) (fun rd e a ha=> ?_) mk
    ·obtain ⟨e1,e2⟩:=zCk y (frz z fr) sl z e
     exact ⟨e1,fun q=>e2 (q▸hxz)⟩
    ·subst e
     have ha:a=c:=ha
     exact ⟨⟨o',ha▸hoo⟩,fun q=>q.2 ha⟩
end
section
variable {prog:Program} {w:World} {G:Heap} {ga:Addr×Addr} {mg:Str→Option Value} {gcx:Nat→Option D} {call:Nat→List D→Option D} {rc:Nat}
theorem zDn.step {PA PB:Addr→Prop} {h h':Heap} {as:List Addr} {vs:List Value} {ss:List Slot} (x:zDn w PA h as vs ss) (ha: ∀b∈as,∀o,h.get? b=some o→h'.get? b=some o) (hk: ∀b o,¬PA b→h.get? b=some o→h'.get? b=some o)
  (hw: ∀b o,h.get? b=some o→PB b→PA b):zDn w PB h' as vs ss:=by
 induction x with
 | nil=>exact .nil
 | val r _ ih=>exact .val (r.step hk hw) (ih ha)
 | own q hn _ ih=>exact .own (q.step (fun b o e g=>by cases e; exact ha _ List.mem_cons_self o g) hk hw) hn (ih fun b hb=>ha b (List.mem_cons_of_mem _ hb))
theorem zDn.length {PA:Addr→Prop} {h:Heap} {as:List Addr} {vs:List Value} {ss:List Slot} (x:zDn w PA h as vs ss):vs.length=ss.length:=by
 induction x with
 | nil=>rfl
 | val _ _ ih=>simp [ih]
 | own _ _ _ ih=>simp [ih]
theorem zDn.append {PA:Addr→Prop} {h:Heap} {as bs:List Addr} {vs us:List Value} {ss ts:List Slot} (x:zDn w PA h as vs ss) (y:zDn w PA h bs us ts) (hd: ∀a∈as,a ∉ bs):zDn w PA h (as++bs) (vs++us) (ss++ts):=by
 induction x with
 | nil=>exact y
 | val r _ ih=>exact .val r (ih hd)
 | own q hn _ ih=>exact .own q (fun hm=>(List.mem_append.mp hm).elim hn (hd _ List.mem_cons_self)) (ih fun a ha=>hd a (List.mem_cons_of_mem _ ha))
theorem zDn.reverse {PA:Addr→Prop} {h:Heap} {as:List Addr} {vs:List Value} {ss:List Slot} (x:zDn w PA h as vs ss):zDn w PA h as.reverse vs.reverse ss.reverse:=by
 induction x with
 | nil=>exact .nil
 | val r _ ih=>
  rw [List.reverse_cons,List.reverse_cons]
  have:=ih.append (.val r .nil) fun V V h=>by cases h
  rwa [List.append_nil] at this
 | own q hn _ ih=>
  rw [List.reverse_cons,List.reverse_cons,List.reverse_cons]
  exact ih.append (.own q (fun h=>by cases h) .nil) fun a ha hb=>hn ((List.mem_singleton.mp hb)▸List.mem_reverse.mp ha)
theorem FC.congrX {A:Around} {env:Env} {Z X X' O:Addr→Prop} {tg:Option (List Nat)} {fr:Frm} {s:Shared} {n:Nat} (F:FC w G ga A env Z X O tg fr s n) (e: ∀a,X' a ↔ X a):FC w G ga A env Z X' O tg fr s n:=by
 have:X'=X:=funext fun a=>propext (e a)
 rw [this]; exact F
theorem zJZ {A:Around} {env:Env} {Z X:Addr→Prop} {n:Nat} {E:Value→Shared→Prop} {Q:Unit→Shared→Prop}: ∀{as:List Addr} {vs:List Value} {ss:List Slot} {xs:List Nat} {ts:List (Value→Sem Unit)} {O:Addr→Prop} {fr:Frm} {s:Shared},
  (∀a∈as,¬X a)→zDn w (PP Z (fun a=>X a∨a∈as) O) s.heap as vs ss→FC w G ga A env Z (fun a=>X a∨a∈as) O none fr s n→xs.length=ss.length→
  Paired (fun (t:Value→Sem Unit) (x:Nat)=>∀v Q s,wpAny (model prog w) A (storeName env (nm x) v) Q E s→wpAny (model prog w) A (t v) Q E s) ts xs→(∀x∈xs,zBc (env.scope.names.lookup (nm x))=true)→
  (∀s' O',(∀b,O b→O' b)→(∀b,O' b→O b∨b∈as)→zAC O' s s'→FC w G ga A env Z X O' none ((xs.zip ss).foldl (fun fr p=>zBV p.1 p.2 fr) fr) s' n→Q () s')→
  wpAny (model prog w) A (assignInOrder ts vs) Q E s:=by
 intro as vs
 induction vs generalizing as with
 | nil=>
  intro ss xs ts O fr s hXn r F hl ht hx hQ
  cases r
  induction xs using List.casesOn with
  | cons _ _=>cases hl
  | nil=>
   cases ht
   exact wpAny_pure (hQ s O (fun V h=>h) (fun V h=> .inl h) (zAC.refl s) (F.congrX fun a=>by simp))
 | cons v vs ih=>
  intro ss xs ts O fr s hXn r F hl ht hx hQ
  induction xs using List.casesOn with
  | nil=>cases r <;> cases hl
  | cons x xs=>
   cases ht with
   | cons t1 t2=>
   unfold assignInOrder
   refine wpAny_bind (wpAny_holding (t1 v _ s ?_))
   have hx1:=zAx (hx x List.mem_cons_self)
   have hx2: ∀y∈xs,zBc (env.scope.names.lookup (nm y))=true:=fun y hy=>hx y (List.mem_cons_of_mem _ hy)
   cases r with
   | @val _ _ _ d ss r1 r2=>
    refine F.fw.store (sl:= .val d) hx1 trivial r1 (fun V e=>by cases e) fun s1 k f=> ?_
    have F1:=F.to k f
    refine ih (O:=O) hXn (r2.step (fun b hb o e=>k.get (fun q=>(F.fw.dO b q).2 (.inr hb)) e) (fun b o nb e=>k.get (fun q=>nb (.inr (.inr q))) e) fun V V V h=>h) F1 (Nat.succ.inj hl) t2 hx2 fun s2 O2 h1 h2 k2 f2=> ?_
    exact hQ s2 O2 h1 h2 ((k.mono fun b V V h=>h1 b h).trans k2 fun V V V h=>h) f2
   | @own a as' _ d ss q hn r2=>
    have hXa: ∀b,b=a→(X b∨b∈a :: as'):=fun b e=> .inr (by rw [e]; exact List.mem_cons_self)
    have pp: ∀b,PP Z (fun c=>X c∨c∈as') (fun c=>O c∨c=a) b ↔ PP Z (fun c=>X c∨c∈a :: as') O b:=fun b=>by
     show (Z b∨(X b∨b∈as')∨O b∨b=a) ↔ (Z b∨(X b∨b∈a :: as')∨O b)
     rw [List.mem_cons]
     constructor
     ·rintro (h | (h | h) | h | h)
      ·exact .inl h
      ·exact .inr (.inl (.inl h))
      ·exact .inr (.inl (.inr (.inr h)))
      ·exact .inr (.inr h)
      ·exact .inr (.inl (.inr (.inl h)))
     ·rintro (h | (h | h | h) | h)
      ·exact .inl h
      ·exact .inr (.inl (.inl h))
      ·exact .inr (.inr (.inr h))
      ·exact .inr (.inl (.inr h))
      ·exact .inr (.inr (.inl h))
    have F':FC w G ga A env Z (fun c=>X c∨c∈as') (fun c=>O c∨c=a) none fr s n:=by
     refine ⟨F.fw.grow (Keeps.refl s) (fun b V V h=>(pp b).mp h) (fun b h=>F.fw.live b ((pp b).mp h)) (fun b h=> ?_) (fun b h=>F.fw.dX b (h.imp id (List.mem_cons_of_mem _))) (fun V h=> .inl h) (fun V h=>h),F.hand,fun b hb y=>F.hp b hb ((pp b).mp y),F.gl,F.dep,F.un⟩
     rcases h with h | h
     ·exact ⟨(F.fw.dO b h).1,fun y=>(F.fw.dO b h).2 (y.imp id (List.mem_cons_of_mem _))⟩
     ·subst h
      exact ⟨F.fw.dX b (.inr List.mem_cons_self),fun y=>y.elim (hXn b List.mem_cons_self) hn⟩
    have hL:a≠env.locals:=fun e=>(F.fw.dO _ F.fw.loc).2 (.inr (e▸List.mem_cons_self))
    refine F'.fw.store (sl:= .own d) hx1 trivial ⟨q.step (fun V V V e=>e) (fun V V V e=>e) fun b V V h=>(pp b).mp h,a,rfl, .inl (.inr rfl),fun V=> .inr rfl,hL⟩ (fun d' V V y dy u m hyx e hm h=> ?_) fun s1 k f=> ?_
    ·obtain ⟨m',hm',hs,_⟩:=F.fw.names
     have:=zDj hm hm'; subst this
     obtain ⟨u',g1,_,b,eb,_,g4,_⟩:=hs y _ e h.kind
     rw [h.inj g1,eb]
     intro e2; cases e2
     exact (F.fw.dO a (g4 rfl)).2 (.inr List.mem_cons_self)
    ·have F1:=F'.to k f
     refine ih (O:=fun c=>O c∨c=a) (fun b hb=>hXn b (List.mem_cons_of_mem _ hb)) (r2.step (fun b hb o e=>k.get (fun y=>y.elim (fun y=>(F.fw.dO b y).2 (.inr (List.mem_cons_of_mem _ hb))) fun y=>hn (y▸hb)) e) (fun b o nb e=>k.get (fun y=>nb ((pp b).mp (.inr (.inr y)))) e) fun b V V h=>(pp b).mp h) F1 (Nat.succ.inj hl) t2 hx2 fun s2 O2 h1 h2 k2 f2=> ?_
     refine hQ s2 O2 (fun b h=>h1 b (.inl h)) (fun b h=> ?_) ((k.mono fun b V V h=>h1 b h).trans k2 fun V V V h=>h) f2
     rcases h2 b h with (y | y) | y
     ·exact .inl y
     ·exact .inr (by rw [y]; exact List.mem_cons_self)
     ·exact .inr (List.mem_cons_of_mem _ y)
theorem zCg: ∀{xs:List Nat} {os:List Bool} {ds:List D} {fr:Frm} {fl:Fl},zGQ xs os ds fr=some fl→xs.length=(zAv os ds).length∧fl= .next ((xs.zip (zAv os ds)).foldl (fun fr p=>zBV p.1 p.2 fr) fr)∧ds.length=xs.length
 | [],os,[],fr,fl,h=>by
  cases (show some (Fl.next fr)=some fl from h)
  cases os <;> exact ⟨rfl,rfl,rfl⟩
 | [],os,d :: ds,fr,fl,h=>by cases h
 | x :: xs,os,[],fr,fl,h=>by cases h
 | x :: xs,[],d :: ds,fr,fl,h=>by
  have h:zDL x (.val d) fr (fun fr=>zGQ xs [] ds fr)=some fl:=h
  rw [zAb] at h
  obtain ⟨h1,h2,h3⟩:=zCg h
  have e:zAv [] ds=ds.map .val:=by cases ds <;> rfl
  rw [e] at h1 h2
  exact ⟨congrArg Nat.succ h1,h2,congrArg Nat.succ h3⟩
 | x :: xs,o :: os,d :: ds,fr,fl,h=>by
  have h:zDL x (zBZ o d) fr (fun fr=>zGQ xs os ds fr)=some fl:=h
  rw [zAb] at h
  obtain ⟨h1,h2,h3⟩:=zCg h
  exact ⟨congrArg Nat.succ h1,h2,congrArg Nat.succ h3⟩
theorem zCS {y:Nat}: ∀{L:List (Nat×Slot)} {fr:Frm},y ∉ L.map (·.1)→zAE y (L.foldl (fun fr p=>zBV p.1 p.2 fr) fr)=zAE y fr
 | [],_,_=>rfl
 | p :: L,fr,h=>by
  rw [List.map_cons,List.mem_cons,not_or] at h
  rw [List.foldl_cons,zCS h.2,zAT,if_neg h.1]
theorem zCj {y:Nat} {sl:Slot}: ∀{L:List (Nat×Slot)} {fr:Frm},(L.map (·.1)).Nodup→(y,sl)∈L→zAE y (L.foldl (fun fr p=>zBV p.1 p.2 fr) fr)=some sl
 | p :: L,fr,hn,h=>by
  rw [List.map_cons,List.nodup_cons] at hn
  rw [List.foldl_cons]
  rcases List.mem_cons.mp h with h | h
  ·subst h
   rw [zCS hn.1,zAT,if_pos rfl]
  ·exact zCj hn.2 h
theorem zHi {y:Nat} {L:List (Nat×Slot)} {fr:Frm} (hn:(L.map (·.1)).Nodup):zAE y (L.foldl (fun fr p=>zBV p.1 p.2 fr) fr)=zAE y (L.reverse.foldl (fun fr p=>zBV p.1 p.2 fr) fr):=by
 have hn2:(L.reverse.map (·.1)).Nodup:=by rw [List.map_reverse]; exact List.pairwise_reverse.mpr (hn.imp fun h=>Ne.symm h)
 by_cases h:y∈L.map (·.1)
 ·obtain ⟨⟨y',sl⟩,hm,rfl⟩:=List.mem_map.mp h
  rw [zCj hn hm,zCj hn2 (List.mem_reverse.mpr hm)]
 ·rw [zCS h,zCS (by rw [List.map_reverse,List.mem_reverse]; exact h)]
theorem zBx {A:Around} {E:Value→Shared→Prop} {s:Shared} {t:Addr} {items:Array Value} {Q:List Value→Shared→Prop} (hh:zAG A s.heap) (ht:s.heap.IsTuple t items)
  (h: ∀h',Heap.ExtBut s.heap.objs.size s.heap h'→Q items.toList {s with heap:=h'}):
  wpAny (model prog w) A (unpackItems (.ref t) items.size none) Q E s:=by
 have hlt:t≠s.heap.objs.size:=by obtain ⟨o,ho,_⟩:=ht; exact Nat.ne_of_lt (Heap.lt_size ho)
 unfold unpackItems
 refine wpAny_bind ?_
 unfold notIterableAtAll
 refine wpAny_bind (wpAny_specialOf ht.typeIs F.slot_tuple_iter.lookup ?_)
 refine wpAny_pure ?_
 simp only [Bool.false_eq_true,if_false]
 refine wpAny_bind (wpAny_holding (wpAny_pyIter_tuple ht ?_))
 refine wpAny_bind (wpAny_holding (wpAny_draw_tuple hlt items.size 0 _ _ ⟨_,Heap.get?_push_size _ rfl,rfl,rfl⟩ (ht.push _) (by lia) fun h₁ hit₁ hs₁=> ?_))
 have hall:List.take items.size (List.drop 0 items.toList)=items.toList:=by
  rw [List.drop_zero]; exact List.take_of_length_le (by simp)
 rw [hall]
 rw [if_neg (by simp)]
 have ht₁:h₁.IsTuple t items:=(ht.push _).extBut hs₁.extBut hlt
 have hh₁:zAG A h₁:=by
  refine hh.at fun b hb o e=>hs₁.extBut b o ?_ (Heap.get?_push_of_some _ e)
  exact Nat.ne_of_lt (hh.live b hb)
 refine wpAny_bind (wpAny_holding (zAo hh₁ hit₁ ht₁ (by simp) fun h₂ he₂=> ?_))
 simp only [Option.isSome_none,Bool.false_eq_true,if_false]
 refine wpAny_pure (h h₂ fun b o hb e=>he₂ b o hb (hs₁.extBut b o hb (Heap.get?_push_of_some _ e)))
noncomputable def zDO (env:Env) (line:Nat) (e:Expr):Option Str:=match e with | .Name id pos=>if env.kindOf id==some .local&&pos.line==line then some id else none | _=>none
def SwR (ts:List Expr) (env:Env) (z:Sem (Option (List Str))):Prop:=∃r,z=pure r∧∀names,r=some names→∃line,names=ts.filterMap (zDO env line)∧names.length=ts.length
theorem ifE {α:Type} {c:Prop} [Decidable c] {a b:α} {P:α→Prop} (h:c→P a) (k: ¬c→P b):P (ite c a b):=if q:c then (if_pos q).symm▸h q else (if_neg q).symm▸k q
theorem zCe {ts vs:List Expr} {k1 k2:Nat} {p1 p2:Pos} {env:Env} (hok:(!(vs.all (constantsAlone 8))||vs.all (foldedForSure 8))=true):SwR ts env (swappedStores [.Tuple ts k1 p1] (.Tuple vs k2 p2) env):=by
 have nn:SwR ts env (pure none):=⟨none,rfl,fun V e=>by cases e⟩
 refine ifE (fun V=>nn) fun V=>ifE (fun V=>nn) fun V=>ifE (fun V=>nn) fun h3=>ifE (fun V=>nn) fun h4=>ifE (fun h5=> ?_) fun V=> ?_
 ·rw [h5] at hok
  exact absurd hok h4
 ·refine ⟨_,rfl,fun names e=> ?_⟩
  obtain rfl:=Option.some.inj e
  refine ⟨(ts.head?.map (·.pos.line)).getD 0,rfl, ?_⟩
  have h3:=(Bool.or_eq_false_iff.mp (Bool.eq_false_iff.mpr h3)).1
  exact bne_eq_false_iff_eq.mp h3
end
section
variable {prog:Program} {w:World} {G:Heap} {ga:Addr×Addr} {mg:Str→Option Value} {gcx:Nat→Option D} {call:Nat→List D→Option D} {rc:Nat}
abbrev zLD (prog:Program) (w:World) (A:Around) (env:Env) (E:Value→Shared→Prop) (t:Value→Sem Unit) (x:Nat):Prop:=∀v (Q:Unit→Shared→Prop) s,wpAny (model prog w) A (storeName env (nm x) v) Q E s→wpAny (model prog w) A (t v) Q E s
theorem zGz {A:Around} {E:Value→Shared→Prop} {env:Env}: ∀{ts:Mine.E},zMz ts=true→(Ck ts).k env.scope=true→
  (∀x∈zDw ts,zBc (env.scope.names.lookup (nm x))=true)∧(assignEach (ups nm ts) env).findIdx? (·.1)=none∧Paired (zLD prog w A env E) ((assignEach (ups nm ts) env).map (·.2)) (zDw ts)∧
  (∀line,((ups nm ts).filterMap (zDO env line)).length=(ups nm ts).length→(ups nm ts).filterMap (zDO env line)=(zDw ts).map nm)∧(ups nm ts).length=(zDw ts).length∧(assignEach (ups nm ts) env).length=(zDw ts).length:=by
 intro ts
 induction ts with
 | nil=>intro _ _; exact ⟨(fun V h=>by cases h),rfl, .nil,fun V V=>rfl,rfl,rfl⟩
 | cons h t _ ih=>
  intro ha hk
  obtain ⟨h1,h2⟩:=zAN (show zAA (zKT h) (zMz t) false=true from ha)
  obtain ⟨k1,k2⟩:=zBH hk
  obtain ⟨i1,i2,i3,i4,i5,i6⟩:=ih h2 k2
  cases h with
  | var x p=>
   have hv:zDw (.cons (.var x p) t)=x :: zDw t:=rfl
   have hu:ups nm (.cons (.var x p) t)= .Name (nm x) p :: ups nm t:=rfl
   have ha:assignEach (.Name (nm x) p :: ups nm t) env=(false,assign (.Name (nm x) p) env) :: assignEach (ups nm t) env:=rfl
   rw [hv,hu,ha]
   refine ⟨fun y hy=> ?_, ?_, ?_,fun line hl=> ?_,by simp [i5],by simp [i6]⟩
   ·rcases List.mem_cons.mp hy with rfl | hy
    ·exact k1
    ·exact i1 y hy
   ·rw [List.findIdx?_cons]; simp [i2]
   ·exact .cons (fun v Q s h=>wpAny_assign_Name h) i3
   ·have hle: ∀(l:List Expr),(l.filterMap (zDO env line)).length≤l.length:=fun l=>List.length_filterMap_le ..
    cases hs:zDO env line (.Name (nm x) p) with
    | none=>
     rw [List.filterMap_cons_none hs] at hl
     have:=hle (ups nm t)
     simp at hl
     lia
    | some y=>
     rw [List.filterMap_cons_some hs] at hl ⊢
     have ey:y=nm x:=by
      unfold zDO at hs
      dsimp only at hs
      split at hs
      ·exact (Option.some.inj hs).symm
      ·cases hs
     rw [ey,i4 line (by simpa using hl)]; rfl
  | _=>cases h1
 | _=>intro ha; cases ha
theorem zJP {α β:Type}: ∀{l:List α} {m:List β},l.length=m.length→(l.zip m).reverse=l.reverse.zip m.reverse
 | [],[],_=>rfl
 | [],_ :: _,h=>by cases h
 | _ :: _,[],h=>by cases h
 | a :: l,b :: m,h=>by
  have h:=Nat.succ.inj h
  rw [List.zip_cons_cons,List.reverse_cons,List.reverse_cons,List.reverse_cons,zJP h,List.zip_append (by simp [h])]
  rfl
theorem zHr {α β:Type}: ∀{l:List α} {m:List β},l.length=m.length→(l.zip m).map (·.1)=l
 | [],[],_=>rfl
 | [],_ :: _,h=>by cases h
 | _ :: _,[],h=>by cases h
 | a :: l,b :: m,h=>by rw [List.zip_cons_cons,List.map_cons,zHr (Nat.succ.inj h)]
theorem zEP {A:Around} {E:Value→Shared→Prop} {env:Env}: ∀xs:List Nat,Paired (zLD prog w A env E) ((xs.map nm).map fun n=>bindName env n) xs
 | []=> .nil
 | x :: xs=> .cons (fun V V V h=>wpAny_bindName h) (zEP xs)
theorem zNx {ts es:E} {k1 k2:Nat} {p1 p2 p:Pos} {os:List Bool} {z:List Nat} (ae:zEk prog w G ga gcx call rc es):SS prog w G ga gcx call rc (.asgT ts k1 p1 es k2 p2 os z p):=by
 intro A env Z X O fr s Q E fl F hk h hQ
 obtain ⟨h1,h2⟩:=zAN (show zAA ((Ck ts).k env.scope) (zAA ((Ck es).k env.scope) (zAA (zMz ts) (zAA (Nat.ble (len (zDw ts)) 20) (zAA (decide (zDw ts).Nodup) (zGI es) false) false) false) false) false=true from hk)
 obtain ⟨h2,h3⟩:=zAN h2
 obtain ⟨h3,h4⟩:=zAN h3
 obtain ⟨h4,h5⟩:=zAN h4
 obtain ⟨h5,h6⟩:=zAN h5
 have hnd:(zDw ts).Nodup:=of_decide_eq_true h5
 have hn20:(zDw ts).length≤20:=by have:=Nat.le_of_ble_eq_true h4; rwa [zBb] at this
 obtain ⟨O1,hO1,F1⟩:=F.frz z
 obtain ⟨ds,h7,h8⟩:=zAB (show bnd ((Ev gcx call es).lo os (frz z fr)) (fun ds=>zGQ (zDw ts) os ds (frz z fr))=some fl from h)
 obtain ⟨hl1,hfl,hl2⟩:=zCg h8
 obtain ⟨n1,n2,n3,n4,n5,n6⟩:=zGz (prog:=prog) (w:=w) (A:=A) (E:=E) h3 h1
 obtain ⟨r,hr,hrn⟩:=zCe (ts:=ups nm ts) (vs:=ups nm es) (k1:=k1) (k2:=k2) (p1:=p1) (p2:=p2) (env:=env) h6
 rw [exec_Assign]
 refine wpAny_bind (wpAny_standAt ?_)
 rw [show swapsWithSole [.Tuple (ups nm ts) k1 p1] (.Tuple (ups nm es) k2 p2) p.line env=pure false from rfl]
 refine wpAny_bind (wpAny_pure ?_)
 rw [if_neg (by decide)]
 rw [arm_eval_Tuple]
 refine wpAny_bind (wpAny_bind (wpAny_standAt (wpAny_bind (ae.slo p2 os A env _ _ s _ E ds F1.cx h2 h7 fun vs s1 as q1 nas las row=> ?_))))
 have hvl:vs.length=(zDw ts).length:=by rw [row.length,hl1]
 refine wpAny_newTuple ?_ (by rw [hvl,sizeLine_eq]; lia)
 rw [hr]
 refine wpAny_bind (wpAny_pure ?_)
 have zCp:(s1.heap.push {cls:= .type "tuple",data:= .seq vs.toArray}).IsTuple s1.heap.objs.size vs.toArray:=zAt (Heap.get?_push_size _ rfl)
 have q2:Keeps s {s1 with heap:=s1.heap.push {cls:= .type "tuple",data:= .seq vs.toArray}}:=Keeps.trans q1 (Keeps.push s1 _)
 generalize hs2:({s1 with heap:=s1.heap.push {cls:= .type "tuple",data:= .seq vs.toArray}}:Shared)=s2 at q2 ⊢
 have htup2:s2.heap.IsTuple s1.heap.objs.size vs.toArray:=by rw [←hs2]; exact zCp
 have q12:Keeps s1 s2:=by rw [←hs2]; exact Keeps.push s1 _
 have hXn: ∀a∈as,¬X a:=fun a ha hX=>by obtain ⟨o,ho⟩:=F1.fw.live a (.inr (.inl hX)); rw [nas a ha] at ho; cases ho
 have F2:FC w G ga A env Z (fun a=>X a∨a∈as) O1 none (frz z fr) s2 rc:=zHe F1 q2 nas fun a ha=>by obtain ⟨o,ho⟩:=las a ha; exact ⟨o,Keeps.get q12 ho⟩
 have stores: ∀s3 (as':List Addr) (vs':List Value) (ss':List Slot) (xs':List Nat) (tasks:List (Value→Sem Unit)),Keeps s2 s3→(∀a,a∈as' ↔ a∈as)→zDn w (fun x=>PP Z X O1 x∨x∈as) s1.heap as' vs' ss'→xs'.length=ss'.length→Paired (zLD prog w A env E) tasks xs'→(∀x∈xs',x∈zDw ts)→
   (∀y,zAE y ((xs'.zip ss').foldl (fun fr p=>zBV p.1 p.2 fr) (frz z fr))=zAE y (((zDw ts).zip (zAv os ds)).foldl (fun fr p=>zBV p.1 p.2 fr) (frz z fr)))→
   wpAny (model prog w) A (assignInOrder tasks vs') (fun V=>Q .next) E s3:=fun s3 as' vs' ss' xs' tasks q3 hmem row' hlen ht hx hfr=>by
  have F3:=(F2.keeps q3).congrX (X':=fun a=>X a∨a∈as') fun a=>by rw [hmem]
  refine zJZ (X:=X) (fun a ha=>hXn a ((hmem a).mp ha)) (row'.step (fun b hb o e=>Keeps.get (Keeps.trans q12 q3) e) (fun b o V e=>Keeps.get (Keeps.trans q12 q3) e) fun b V V y=> ?_) F3 hlen ht (fun x hx'=>n1 x (hx x hx')) fun s4 O4 g1 g2 k4 f4=> ?_
  ·rcases y with y | (y | y) | y
   ·exact .inl (.inl y)
   ·exact .inl (.inr (.inl y))
   ·exact .inr ((hmem b).mp y)
   ·exact .inl (.inr (.inr y))
  ·have sub: ∀b o,s.heap.get? b=some o→O4 b→O1 b:=fun b o ho y=>(g2 b y).elim id fun y=>by rw [nas b ((hmem b).mp y)] at ho; cases ho
   refine hQ .next s4 O4 ((zAC.of (O:=O) (Keeps.trans q2 q3)).trans k4 fun b o ho y=>hO1 b (sub b o ho y)) (fun b y=>(g2 b y).imp (hO1 b) fun y=>nas b ((hmem b).mp y)) ?_
   rw [hfl]
   exact ⟨rfl,f4.fw.congr fun y sl e=>(hfr y).trans e,f4.hand,f4.hp,f4.gl,f4.dep,f4.un⟩
 cases r with
 | none=>
  show wpAny _ A (do assignAll (.ref s1.heap.objs.size) [assign (.Tuple (ups nm ts) k1 p1) env]; pure .next) Q E s2
  refine wpAny_bind ?_
  show wpAny _ A (assign (.Tuple (ups nm ts) k1 p1) env (.ref s1.heap.objs.size)) _ E s2
  rw [arm_assign_Tuple]
  refine wpAny_bind (wpAny_standAt (zCM F2.hand htup2 (by rw [n6]; simp [hvl]) n2 fun h' he=> ?_))
  have q3:Keeps s2 {s2 with heap:=h'}:=⟨h',s2.toks,rfl,fun a o e=>he a o (zBG (P:=fun V=>False) e) e⟩
  refine wpAny_mono (stores {s2 with heap:=h'} as vs (zAv os ds) (zDw ts) _ q3 (fun V=>Iff.rfl) row hl1 n3 (fun V h=>h) fun V=>rfl) (fun V V q=>wpAny_pure q) fun V V e=>e
 | some names=>
  obtain ⟨line,e1,e2⟩:=hrn names rfl
  have e3:names=(zDw ts).map nm:=by rw [e1]; exact n4 line (by rw [←e1]; exact e2)
  show wpAny _ A (do rule "assign.swapped-stores"; let items←unpackItems (.ref s1.heap.objs.size) names.length none; assignInOrder (names.reverse.map fun n=>bindName env n) items.reverse; pure .next) Q E s2
  have hlen:names.length=vs.toArray.size:=by rw [e3]; simp [hvl]
  rw [hlen]
  refine wpAny_bind (wpAny_rule (wpAny_bind (zBx F2.hand htup2 fun h' he=> ?_)))
  have q3:Keeps s2 {s2 with heap:=h'}:=⟨h',s2.toks,rfl,fun a o e=>he a o (zBG (P:=fun V=>False) e) e⟩
  refine wpAny_bind ?_
  have hrow:=row.reverse
  have ez:(zDw ts).reverse.zip (zAv os ds).reverse=((zDw ts).zip (zAv os ds)).reverse:=(zJP hl1).symm
  have:=stores {s2 with heap:=h'} as.reverse vs.reverse (zAv os ds).reverse (zDw ts).reverse (names.reverse.map fun n=>bindName env n) q3 (fun V=>List.mem_reverse) hrow (by simp [hl1]) (by
   rw [e3, ←List.map_reverse]; exact zEP _) (fun x hx=>List.mem_reverse.mp hx) fun y=>by
    rw [ez]
    exact (zHi (by rw [zHr hl1]; exact hnd)).symm
  exact wpAny_mono this (fun V V q=>wpAny_pure q) fun V V e=>e
end
section
variable {prog:Program} {w:World} {G:Heap} {ga:Addr×Addr} {mg:Str→Option Value} {gcx:Nat→Option D} {call:Nat→List D→Option D} {rc:Nat}
def zEh (prog:Program) (w:World) (G:Heap) (mg:Str→Option Value) (rc:Nat):Prop:=∃fa o fd,mg (nm 271)=some (.ref fa)∧G.get? fa=some o∧o.data= .func fd∧
 ∀(A:Around) (P:Addr→Prop) (s:Shared) (a:Addr) (vs:Array Value) (c i j:Nat) (ti tj:Tok) (u v:Value) (Q:Value→Shared→Prop) (E:Value→Shared→Prop),(∀a o,G.get? a=some o→s.heap.get? a=some o∧¬P a)→(∀a,P a→∃o,s.heap.get? a=some o)→P a→
  zAG A s.heap→(∀b∈zAQ A,¬P b)→A.depth + rc≤900→A.units + 16 * rc + 200≤9800→s.heap.get? a=some (zBz vs c)→vs.size≤100000→vs[i]? =some u→vs[j]? =some v→
  (∀s' c',zAC (· =a) s s'→s'.heap.get? a=some (zBz ((vs.setIfInBounds i v).setIfInBounds j u) c')→Q .none s')→wpAny (model prog w) A (PySem.call (.ref fa) [.ref a, .int i ti, .int j tj]) Q E s
theorem zEy {τ:Type} {d:D} {f:Nat→Option τ} {r:τ} (h:zIm d f=some r): ∃k:Nat,d= .int (k:Int)∧f k=some r:=by
 obtain ⟨i,rfl,h⟩:=zBM h
 induction i with
 | ofNat k=>exact ⟨k,rfl,h⟩
 | negSucc k=>cases h
theorem zPS (W:Wd w G ga mg gcx) (hs:zEh prog w G mg rc) {f x:Nat} {fp xp cp p:Pos} {i j:E} (ai:zEk prog w G ga gcx call rc i) (aj:zEk prog w G ga gcx call rc j):SS prog w G ga gcx call rc (.swp f fp x xp i j cp p):=by
 intro A env Z X O fr s Q E fl F hk h hQ
 obtain ⟨k1,k2⟩:=zAN (show zAA (zDP (env.scope.names.lookup (nm f))) (zAA (Nat.beq f 271) (zAA (zFz env.scope x) (zAA ((Ck i).k env.scope) ((Ck j).k env.scope) false) false) false) false=true from hk)
 obtain ⟨k2,k3⟩:=zAN k2
 obtain ⟨k3,k4⟩:=zAN k3
 obtain ⟨k4,k5⟩:=zAN k4
 have hf:=Nat.eq_of_beq_eq_true k2
 subst hf
 obtain ⟨di,h1,h⟩:=zAB (show bnd ((Ev gcx call i).v fr) (fun i=>bnd ((Ev gcx call j).v fr) fun j=>zIm i fun i=>zIm j fun j=>zLk x fr fun l=>zAA (zAI l)
   (bnd (zFW l i) fun a=>bnd (zFW l j) fun b=>bnd (zJL i b l) fun l=>bnd (zJL j a l) fun l=>zAy x (.own (.list l)) fr) none)=some fl from h)
 obtain ⟨dj,h2,h⟩:=zAB h
 obtain ⟨ki,e4,h⟩:=zEy (d:=di) (f:=fun i=>zIm dj fun j=>zLk x fr fun l=>zAA (zAI l) (bnd (zFW l i) fun a=>bnd (zFW l j) fun b=>bnd (zJL i b l) fun l=>bnd (zJL j a l) fun l=>zAy x (.own (.list l)) fr) none) h
 subst e4
 obtain ⟨kj,e5,h⟩:=zEy (d:=dj) (f:=fun j=>zLk x fr fun l=>zAA (zAI l) (bnd (zFW l ki) fun a=>bnd (zFW l j) fun b=>bnd (zJL ki b l) fun l=>bnd (zJL j a l) fun l=>zAy x (.own (.list l)) fr) none) h
 subst e5
 obtain ⟨l,h3,h⟩:=zEI h
 obtain ⟨h4,h⟩:=zAD h
 obtain ⟨da,h5,h⟩:=zAB h
 obtain ⟨db,h6,h⟩:=zAB h
 obtain ⟨l1,h7,h⟩:=zAB h
 obtain ⟨l2,h8,h⟩:=zAB h
 obtain ⟨_,rfl⟩:=zCu h7
 obtain ⟨_,rfl⟩:=zCu h8
 have h:zDL x (.own (.list ((l.set ki db).set kj da))) fr (fun fr=>some (Fl.next fr))=some fl:=h
 rw [zAb] at h
 cases h
 rw [zEK] at h5 h6
 obtain ⟨fa,o,fd,e1,e2,e3,sp⟩:=hs
 refine wpAny_Expr_any ?_ (zBE F.fw.kind) rfl
 refine wpAny_Call_Name_kw (zBf W F.cx k1 (zBT 271) e1 ?_)
 have ei: ∀x,i≠ .raw x:=zAk h1
 have ej: ∀x,j≠ .raw x:=zAk h2
 have hst:backTo cp (starEach [.Name (nm x) xp,up nm i,up nm j] env)=(false,eval (.Name (nm x) xp) env) :: backTo cp (starEach [up nm i,up nm j] env):=rfl
 have hst2:backTo cp (starEach [up nm i,up nm j] env)=(false,eval (up nm i) env) :: backTo cp (starEach [up nm j] env):=by rw [zAV ei,zAP]
 have hst3:backTo cp (starEach [up nm j] env)=(false,eval (up nm j) env) :: backTo cp (starEach [] env):=by rw [zAV ej,zAP]
 refine callWith_def e3 (o:=o) ?_ rfl
 rw [hst]
 refine Calls.spliced_cons (zAh F.fw k3 h3 fun v m hm hv r1=> ?_)
 rw [hst2]
 refine Calls.spliced_cons (ai.se.v A env _ fr s _ _ _ F.cx k4 h1 fun vi s₁ q1 r2=> ?_)
 rw [hst3]
 refine Calls.spliced_cons (aj.se.v A env _ fr s₁ _ _ _ (F.keeps q1).cx k5 h2 fun vj s₂ q2 r3=> ?_)
 refine Calls.spliced_nil ?_
 have q12:=Keeps.trans q1 q2
 have F2:=F.keeps q12
 obtain ⟨⟨a,vs,c,eb,g,rs⟩,b,rfl,_,ho,hne⟩:=r1
 cases eb
 have hO:O a:=ho rfl
 obtain ⟨ti,rfl⟩:=r2.intInv
 obtain ⟨tj,rfl⟩:=r3.intInv
 refine ⟨Keeps.get q12 (F.fw.glob _ _ e2).1, ?_⟩
 obtain ⟨u,eu,ru⟩:=rs.get h5
 obtain ⟨v,ev,rv⟩:=rs.get h6
 have hl:vs.size=l.length:=by rw [←rs.length]; simp
 refine sp A (PP Z X O) s₂ a vs c ki kj ti tj u v _ E F2.fw.glob F2.fw.live (zDi hO) F2.hand F2.hp F2.dep F2.un (Keeps.get q12 g) (by rw [hl]; exact zAH h4) (by simpa using eu) (by simpa using ev) fun s₃ c' kb g'=> ?_
 obtain ⟨hm2,hv2⟩:=zIp q12 hm hv
 have hP: ∀b,b=a→PP Z X O b:=fun b e=>by rw [e]; exact zDi hO
 have rr:=(((zAK.keeps rs q12).keepBut kb hP).set ((RdW.keeps rv q12).keepBut kb hP) ki).set ((RdW.keeps ru q12).keepBut kb hP) kj
 obtain ⟨kO,F'⟩:=F2.upd (d':= .list ((l.set ki db).set kj da)) h3 hm2 hv2 kb ⟨a,_,c',rfl,g',by simpa using rr⟩
 exact hQ _ s₃ O (zGa (fun V h=>h) q12 kO) (zCX.sub fun V h=>h) ⟨rfl,F'⟩
theorem zGy (W:Wd w G ga mg gcx) (hc:zAW prog w G mg call rc) (hsort:zFN prog w) (hsw:zEh prog w G mg rc): ∀st:S,SS prog w G ga gcx call rc st∧SSs prog w G ga gcx call rc st:=by
 have ae:=zEo (rc:=rc) W hc hsort
 intro st
 induction st with
 | nil=>exact ⟨fun A env Z X O fr s Q E fl F hk h hQ=>(by cases h),zNr⟩
 | cons h t ih it=>exact ⟨fun A env Z X O fr s Q E fl F hk h hQ=>(by cases h),zLb ih.1 it.2⟩
 | asg t e o z p=>exact ⟨zPY W (ae t) (ae e) fun elt g V V V V=>⟨ae elt,ae g⟩,fun A env Z X O fr s Q E fl F hk h hQ=>by cases h⟩
 | asgT ts k1 p1 es k2 p2 os z p=>exact ⟨zNx (ae es),fun A env Z X O fr s Q E fl F hk h hQ=>by cases h⟩
 | asgS x xp i sp e z p=>exact ⟨zNy (ae i) (ae e),fun A env Z X O fr s Q E fl F hk h hQ=>by cases h⟩
 | popL x xp y yp mp cp p=>exact ⟨zNs,fun A env Z X O fr s Q E fl F hk h hQ=>by cases h⟩
 | popD x xp y yp mp k e cp p=>exact ⟨zNt (ae k) (ae e),fun A env Z X O fr s Q E fl F hk h hQ=>by cases h⟩
 | augN x xp op e p=>exact ⟨zNw (ae e),fun A env Z X O fr s Q E fl F hk h hQ=>by cases h⟩
 | augS x xp i sp op e p=>exact ⟨zNv (ae i) (ae e),fun A env Z X O fr s Q E fl F hk h hQ=>by cases h⟩
 | mth x xp m mp l cp z p=>exact ⟨zPV (ae l),fun A env Z X O fr s Q E fl F hk h hQ=>by cases h⟩
 | swp f fp x xp i j cp p=>exact ⟨zPS W hsw (ae i) (ae j),fun A env Z X O fr s Q E fl F hk h hQ=>by cases h⟩
 | exp e z p=>exact ⟨zPX (ae e),fun A env Z X O fr s Q E fl F hk h hQ=>by cases h⟩
 | ret e z p=>exact ⟨zPU (ae e),fun A env Z X O fr s Q E fl F hk h hQ=>by cases h⟩
 | iff t b o p ib io=>exact ⟨zPW (ae t) ib.2 io.2,fun A env Z X O fr s Q E fl F hk h hQ=>by cases h⟩
 | whl t b p ib=>exact ⟨zPR (ae t) ib.2,fun A env Z X O fr s Q E fl F hk h hQ=>by cases h⟩
 | fr t i b z p ib=>exact ⟨ss_fr (ae t) (ae i) ib.2,fun A env Z X O fr s Q E fl F hk h hQ=>by cases h⟩
 | cont p=>exact ⟨zNu,fun A env Z X O fr s Q E fl F hk h hQ=>by cases h⟩
 | raw x=>exact ⟨fun A env Z X O fr s Q E fl F hk h hQ=>(by cases h),fun A env Z X O fr s Q E fl F hk h hQ=>by cases h⟩
end
def zHC (G:Heap) (mg:Str→Option Value) (ga:Addr×Addr) (f:Nat) (fn:Fn):Prop:=∃a o fd,mg (nm f)=some (.ref a)∧G.get? a=some o∧o.data= .func fd∧fd.body= .stmts (zCW nm fn.body)∧fd.scope=fn.sc∧fd.closure=[]∧
 fd.globals=ga.1∧fd.builtins=ga.2∧G.CodeRec fd.code fd.qualname∧∀vs,vs.length=fn.params.length→bindArgs fd ⟨vs,[]⟩=pure ((fn.params.map nm).zip vs)
noncomputable def FnS (fn:Fn):Bool:=zAA (fn.sc.kind== .function) (zAA (!fn.sc.isCoroutine) (zAA (!fn.sc.isGenerator) (zAA (decide fn.params.Nodup) (zAA (fn.params.all fun x=>zBc (fn.sc.names.lookup (nm x))) (!fn.params.isEmpty) false) false) false) false) false
set_option tactic.hygienic true in
theorem zBj: ∀(names:List (Str×NameKind)) (k:Nat) (acc:List (Str×Addr)) (n:Str),((n,NameKind.cell)∈names∨(acc.lookup n).isSome=true)→((cellsFrom k names acc).lookup n).isSome=true
 | [],k,acc,n,h=>h.elim (fun h=>by cases h) id
 | (x,kd) :: r,k,acc,n,h=>by
  unfold cellsFrom
  split
  ·rename_i hk
   refine zBj r _ _ n ?_
   by_cases e:n=x
   ·right; rw [e,List.lookup_cons]; simp
   ·rcases h with h | h
    ·rcases List.mem_cons.mp h with h | h
     ·cases h; exact absurd rfl e
     ·exact .inl h
    ·right
     rw [List.lookup_cons,beq_false_of_ne e]; exact h
  ·rename_i hk
   refine zBj r _ _ n ?_
   rcases h with h | h
   ·rcases List.mem_cons.mp h with h | h
    ·cases h; exact absurd rfl hk
    ·exact .inl h
   ·exact .inr h
theorem zGt {kindOf:Str→Option NameKind}: ∀{b:List (Str×Value)} {m:Str→Option Value} {n:Str},n ∉ b.map (·.1)→bindL kindOf b m n=m n
 | [],_,_,_=>rfl
 | (k,v) :: r,m,n,h=>by
  rw [List.map_cons,List.mem_cons,not_or] at h
  unfold bindL
  rw [zGt h.2]
  split
  ·exact if_neg h.1
  ·rfl
theorem zGu {kindOf:Str→Option NameKind}: ∀{b:List (Str×Value)} {m:Str→Option Value} {n:Str},n ∉ b.map (·.1)→bindC kindOf b m n=m n
 | [],_,_,_=>rfl
 | (k,v) :: r,m,n,h=>by
  rw [List.map_cons,List.mem_cons,not_or] at h
  unfold bindC
  rw [zGu h.2]
  split
  ·rfl
  ·exact if_neg h.1
theorem zDH {kindOf:Str→Option NameKind} {b:List (Str×Value)}: ∀{m:Str→Option Value} {n:Str} {v:Value},(b.map (·.1)).Nodup→(n,v)∈b→kindOf n=some .local→bindL kindOf b m n=some v:=by
 induction b with
 | nil=>intro m n v _ h; cases h
 | cons p r ih=>
  intro m n v hn h hk
  rw [List.map_cons,List.nodup_cons] at hn
  unfold bindL
  rcases List.mem_cons.mp h with e | h
  ·subst e
   rw [zGt hn.1,if_pos hk]; simp
  ·exact ih hn.2 h hk
theorem zKu {kindOf:Str→Option NameKind} {b:List (Str×Value)}: ∀{m:Str→Option Value} {n:Str} {v:Value},(b.map (·.1)).Nodup→(n,v)∈b→kindOf n=some .cell→bindC kindOf b m n=some v:=by
 induction b with
 | nil=>intro m n v _ h; cases h
 | cons p r ih=>
  intro m n v hn h hk
  rw [List.map_cons,List.nodup_cons] at hn
  unfold bindC
  rcases List.mem_cons.mp h with e | h
  ·subst e
   rw [zGu hn.1,if_neg (by rw [hk]; decide)]; simp
  ·exact ih hn.2 h hk
theorem zJQ: ∀{xs:List Nat} {vs:List Value},vs.length=xs.length→((xs.map nm).zip vs).map (·.1)=xs.map nm
 | [],_,_=>by simp
 | x :: xs,[],h=>by cases h
 | x :: xs,v :: vs,h=>by
  have:=zJQ (xs:=xs) (vs:=vs) (Nat.succ.inj h)
  rw [List.map_cons,List.zip_cons_cons,List.map_cons,this]
theorem zNC {xs:List Nat}: ∀{vs:List Value} {x:Nat} {v:Value},(x,v)∈xs.zip vs→(nm x,v)∈(xs.map nm).zip vs:=by
 induction xs with
 | nil=>intro vs x v h; cases h
 | cons y xs ih=>
  intro vs x v h
  cases vs with
  | nil=>cases h
  | cons u vs=>
   rw [List.zip_cons_cons] at h
   rcases List.mem_cons.mp h with e | h
   ·cases e; exact List.mem_cons_self
   ·exact List.mem_cons_of_mem _ (ih h)
theorem zPN {xs:List Nat} {vs:List Value} {n:Str} {v:Value} (h:(n,v)∈(xs.map nm).zip vs): ∃x∈xs,n=nm x:=by
 have:=(List.of_mem_zip h).1
 obtain ⟨x,hx,e⟩:=List.mem_map.mp this
 exact ⟨x,hx,e.symm⟩
section
variable {prog:Program} {w:World} {G:Heap} {ga:Addr×Addr} {mg:Str→Option Value} {gcx:Nat→Option D} {call:Nat→List D→Option D} {rc:Nat}
theorem zBo (W:Wd w G ga mg gcx) {f:Nat} {fn:Fn} (at_:zHC G mg ga f fn) (ck:FnS fn=true): ∃a o fd,mg (nm f)=some (.ref a)∧G.get? a=some o∧o.data= .func fd∧
  ∀(A:Around) (P:Addr→Prop) (s:Shared) (vs:List Value) (Q:Value→Shared→Prop) (E:Value→Shared→Prop),(∀a o,G.get? a=some o→s.heap.get? a=some o∧¬P a)→(∀a,P a→∃o,s.heap.get? a=some o)→
   zAG A s.heap→(∀b∈zAQ A,¬P b)→A.depth + (rc + 1)≤900→A.units + 16 * (rc + 1) + 200≤9800→vs.length=fn.params.length→
   (∀(env:Env) (s₁:Shared) (O:Addr→Prop),Keeps s s₁→(∀a,O a→s.heap.get? a=none)→env.scope=fn.sc→env.globals=ga.1∧env.builtins=ga.2→env.frame=some env.locals∧env.code=fd.code→
    (∃m,s₁.heap.Ns env.locals m∧∀x v,(x,v)∈fn.params.zip vs→Holds env s₁.heap m x v)→
    (∀fr,(∀x sl,zAE x fr=some sl→∃v d,sl= .val d∧(x,v)∈fn.params.zip vs∧RdW P s.heap v d)→FC w G ga (A.deeper env) env P (fun V=>False) O none fr s₁ rc)→
    wpAny (model prog w) (A.deeper env) (execs (zCW nm fn.body) env) (fun f s'=>Q (match f with | .ret v=>v | _=> .none) s') (fun e s'=>wpAny (model prog w) (A.deeper env) («leaving» env e) (fun V s''=>E e s'') (fun e' s''=>E e' s'') s') s₁)→
   wpAny (model prog w) A (PySem.call (.ref a) vs) Q E s:=by
 obtain ⟨a,o,fd,e1,e2,e3,hb,hsc,hclo,hg,hbu,hcd,hbind⟩:=at_
 refine ⟨a,o,fd,e1,e2,e3, ?_⟩
 intro A P s vs Q E glob live hand hp dep un hlen body
 obtain ⟨c1,ck⟩:=zAN (show zAA (fn.sc.kind== .function) (zAA (!fn.sc.isCoroutine) (zAA (!fn.sc.isGenerator) (zAA (decide fn.params.Nodup) (zAA (fn.params.all fun x=>zBc (fn.sc.names.lookup (nm x))) (!fn.params.isEmpty) false) false) false) false) false=true from ck)
 obtain ⟨c2,ck⟩:=zAN ck
 obtain ⟨c3,ck⟩:=zAN ck
 obtain ⟨c4,ck⟩:=zAN ck
 obtain ⟨c5,c6⟩:=zAN ck
 have hnd:fn.params.Nodup:=of_decide_eq_true c4
 have hvar:=List.all_eq_true.mp c5
 have hkind:fd.scope.kind= .function:=by rw [hsc]; simpa using c1
 have hnd2:(((fn.params.map nm).zip vs).map (·.1)).Nodup:=by
  rw [zJQ hlen]
  exact List.Pairwise.map _ (fun a b h e=>h (zEw e)) hnd
 have kk: ∀a o,G.get? a=some o→s.heap.get? a=some o:=fun a o e=>(glob a o e).1
 refine wpAny_call (codeAny_call_cells (by show A.depth < 1000; lia) (kk _ _ e2) e3 (by obtain ⟨mc,n1,n2⟩:=W.nolimit; exact ⟨mc,n1.keeps kk,n2⟩) (hcd.keeps kk) hb (hbind vs hlen) hclo (fun x hx=> ?_) (fun s₁ X=> ?_) (by rw [hsc]; simpa using c2) (by rw [hsc]; simpa using c3) hkind)
 ·obtain ⟨y,hy,e⟩:=zPN (n:=x.1) (v:=x.2) hx
  rw [hsc,e]
  rcases zAx (hvar y hy) with h | h
  ·exact .inl h
  ·exact .inr ⟨h,zBj _ _ _ _ (.inl (mem_of_lookup h))⟩
 ·have hfr:s.heap.objs.size≤(callEnvC fd s.heap.objs.size a).locals:=X.toInCall.fresh
  have hnone: ∀b,s.heap.objs.size≤b→s.heap.get? b=none:=fun b hb=>by
   cases e:s.heap.get? b with
   | none=>rfl
   | some o=>exact absurd (Heap.lt_size e) (Nat.not_lt.mpr hb)
  obtain ⟨h',tk,es,keep⟩:=X.done
  have K:Keeps s s₁:=⟨h',tk,es,keep⟩
  have hNs:=X.toInCall.ns
  have hsc':(callEnvC fd s.heap.objs.size a).scope=fn.sc:=hsc
  have hcl: ∀n c,(callEnvC fd s.heap.objs.size a).cells.lookup n=some c→s.heap.get? c=none∧∃v,s₁.heap.IsCell c v:=fun n c e=>⟨hnone c (Nat.le_trans hfr (Nat.le_of_lt (X.above n c (mem_of_lookup e)))),_,X.cell n c e⟩
  have hold: ∀x v,(x,v)∈fn.params.zip vs→Holds (callEnvC fd s.heap.objs.size a) s₁.heap (bindL (callEnvC fd s.heap.objs.size a).kindOf ((fn.params.map nm).zip vs) fun V=>none) x v:=fun x v hm=>by
   have hmx:=(List.of_mem_zip hm).1
   rcases zAx (hvar x hmx) with h | h
   ·have hk':(callEnvC fd s.heap.objs.size a).kindOf (nm x)=some .local:=by show fd.scope.names.lookup (nm x)=_; rw [hsc]; exact h
    exact .inl ⟨hk',zDH hnd2 (zNC hm) hk'⟩
   ·have hk':(callEnvC fd s.heap.objs.size a).kindOf (nm x)=some .cell:=by show fd.scope.names.lookup (nm x)=_; rw [hsc]; exact h
    have:((callEnvC fd s.heap.objs.size a).cells.lookup (nm x)).isSome=true:=by
     show ((cellsFrom (s.heap.objs.size + 1) fd.scope.names []).lookup (nm x)).isSome=true
     rw [hsc]; exact zBj _ _ _ _ (.inl (mem_of_lookup h))
    obtain ⟨c,hc⟩:=Option.isSome_iff_exists.mp this
    refine .inr ⟨hk',c,hc, ?_⟩
    have:=X.cell (nm x) c hc
    rwa [zKu hnd2 (zNC hm) hk'] at this
  refine wpAny_mono (body (callEnvC fd s.heap.objs.size a) s₁ (fun b=>s.heap.get? b=none∧∃o,s₁.heap.get? b=some o) K (fun b h=>h.1) hsc' ⟨hg,hbu⟩ ⟨rfl,rfl⟩ ⟨_,hNs,hold⟩ fun fr hfrm=> ?_) (fun V V q=>q) fun V V q=>q
  have nP: ∀b,P b→¬s.heap.get? b=none:=fun b h e=>by obtain ⟨o,ho⟩:=live b h; rw [e] at ho; cases ho
  refine ⟨⟨fun b o e=>⟨Keeps.get K (kk b o e),fun y=> ?_⟩,fun b y=> ?_,fun b y=>⟨fun z=>nP b z y.1,id⟩,fun V h=>h.elim,hkind,⟨hnone _ hfr, ?_⟩,fun n hn=> ?_,fun n c e=> .inl ⟨(hcl n c e).1, ?_⟩,fun n c e=>(hcl n c e).2,fun m n c e e'=>name_of_addr X.apart (mem_of_lookup e) (mem_of_lookup e'),fun x c V V e=>⟨(hcl _ c e).1, ?_⟩,_,hNs,fun x sl e hx=> ?_,fun V x y dx dy v u V e V V V=> ?_⟩,
   ?_,fun b hb y=> ?_,⟨hg,hbu⟩, ?_, ?_⟩
  ·rcases y with y | y | y
   ·exact (glob b o e).2 y
   ·exact y
   ·rw [kk b o e] at y; cases y.1
  ·rcases y with y | y | y
   ·obtain ⟨o,ho⟩:=live b y; exact ⟨o,Keeps.get K ho⟩
   ·exact y.elim
   ·exact y.2
  ·obtain ⟨o,_,_,ho,_⟩:=hNs; exact ⟨o,ho⟩
  ·have hn':fd.scope.names.lookup n=some .cell:=hn
   have:((callEnvC fd s.heap.objs.size a).cells.lookup n).isSome=true:=zBj _ _ _ _ (.inl (mem_of_lookup hn'))
   obtain ⟨c,hc⟩:=Option.isSome_iff_exists.mp this
   exact ⟨c,_,hc,X.cell n c hc⟩
  ·obtain ⟨_,v,o,ho,_⟩:=hcl n c e; exact ⟨o,ho⟩
  ·obtain ⟨_,v,o,ho,_⟩:=hcl _ c e; exact ⟨o,ho⟩
  ·obtain ⟨v,d,rfl,hm,r⟩:=hfrm x sl e
   refine ⟨v,hold x v hm, ?_⟩
   show RdW _ s₁.heap v d
   refine r.step (fun b o V e=>Keeps.get K e) fun b o ho y=> ?_
   rcases y with y | y | y
   ·exact y
   ·exact y.elim
   ·rw [ho] at y; cases y.1
  ·obtain ⟨_,d,e',_⟩:=hfrm x _ e
   cases e'
  ·exact (show zAG A s₁.heap from hand.keep fun b o e=>Keeps.get K e)
  ·rcases y with y | y | y
   ·exact hp b hb y
   ·exact y
   ·obtain ⟨o,ho⟩:=hand.liveAt hb; rw [ho] at y; cases y.1
  ·show A.depth + 1 + rc≤900; lia
  ·show A.units + 3 + 16 * rc + 200≤9800; lia
end
theorem zCK: ∀{xs:List Nat} {ds:List D} {acc fr:Frm},List.rec (motive:=fun V=>List D→Frm→Option Frm) (fun ds fr=>onL ds (some fr) fun V V=>none) (fun x V ih ds fr=>onL ds none fun d ds=>ih ds ((x, .val d) :: fr)) xs ds acc=some fr→
  xs.length=ds.length∧∀x sl,zAE x fr=some sl→(∃d,sl= .val d∧(x,d)∈xs.zip ds)∨zAE x acc=some sl
 | [],[],acc,fr,h=>by
  cases (show some acc=some fr from h)
  exact ⟨rfl,fun x sl e=> .inr e⟩
 | [],d :: ds,acc,fr,h=>by cases h
 | x :: xs,[],acc,fr,h=>by cases h
 | x :: xs,d :: ds,acc,fr,h=>by
  obtain ⟨h1,h2⟩:=zCK (xs:=xs) (ds:=ds) (acc:=(x, .val d) :: acc) h
  refine ⟨congrArg Nat.succ h1,fun y sl e=> ?_⟩
  rcases h2 y sl e with ⟨d',e1,hm⟩ | e
  ·exact .inl ⟨d',e1,List.mem_cons_of_mem _ hm⟩
  ·have e:zAA (Nat.beq x y) (some (Slot.val d)) (zAE y acc)=some sl:=e
   rw [zEx] at e
   by_cases hxy:x=y
   ·rw [decide_eq_true hxy,zAJ] at e
    cases e
    exact .inl ⟨d,rfl,by rw [←hxy]; exact List.mem_cons_self⟩
   ·rw [decide_eq_false hxy,zAF] at e
    exact .inr e
theorem zDo {P:Addr→Prop} {h:Heap} {x:Nat} {d:D}: ∀{xs:List Nat} {vs:List Value} {ds:List D},zAK P h vs ds→(x,d)∈xs.zip ds→∃v,(x,v)∈xs.zip vs∧RdW P h v d
 | [],_,_,_,h=>by cases h
 | y :: xs,_,_, .nil,h=>by cases h
 | y :: xs,_,_, .cons (v:=v) r rs,h=>by
  rw [List.zip_cons_cons] at h
  rcases List.mem_cons.mp h with e | h
  ·cases e; exact ⟨v,List.mem_cons_self,r⟩
  ·obtain ⟨u,h1,h2⟩:=zDo rs h
   exact ⟨u,List.mem_cons_of_mem _ h1,h2⟩
section
variable {prog:Program} {w:World} {G:Heap} {ga:Addr×Addr} {mg:Str→Option Value} {gcx:Nat→Option D} {call:Nat→List D→Option D} {rc:Nat}
def zLF (prog:Program) (w:World) (G:Heap) (mg:Str→Option Value) (rc f:Nat) (ds:List D) (d:D):Prop:=ds≠[]∧∃a o fd,mg (nm f)=some (.ref a)∧G.get? a=some o∧o.data= .func fd∧
  ∀(A:Around) (P:Addr→Prop) (s:Shared) (vs:List Value) (Q:Value→Shared→Prop) (E:Value→Shared→Prop),(∀a o,G.get? a=some o→s.heap.get? a=some o∧¬P a)→(∀a,P a→∃o,s.heap.get? a=some o)→
   zAG A s.heap→(∀b∈zAQ A,¬P b)→A.depth + rc≤900→A.units + 16 * rc + 200≤9800→zAK P s.heap vs ds→
   (∀v s',Keeps s s'→RdW P s'.heap v d→(f=270→zCY w P s s' v d)→Q v s')→wpAny (model prog w) A (PySem.call (.ref a) vs) Q E s
theorem zLF.le {f:Nat} {ds:List D} {d:D} {rc':Nat} (x:zLF prog w G mg rc f ds d) (h:rc≤rc'):zLF prog w G mg rc' f ds d:=by
 obtain ⟨h0,a,o,fd,e1,e2,e3,sp⟩:=x
 refine ⟨h0,a,o,fd,e1,e2,e3, ?_⟩
 intro A P s vs Q E glob live hand hp dep un r hQ
 exact sp A P s vs Q E glob live hand hp (by lia) (by lia) r hQ
theorem zCA {O:Addr→Prop} {s s₁ s':Shared} (K:Keeps s s₁) (k:zAC O s₁ s') (hn: ∀a,O a→s.heap.get? a=none):Keeps s s':=
 ((zAC.of (O:=fun V=>False) K).trans k fun a o ho h=>by rw [hn a h] at ho; cases ho).keeps fun V V V h=>h
theorem zMj (W:Wd w G ga mg gcx) (hc:zAW prog w G mg call rc) (hsort:zFN prog w) (hsw:zEh prog w G mg rc) {f:Nat} {fn:Fn} {ds:List D} {d:D} (at_:zHC G mg ga f fn) (ck:FnS fn=true) (sk:Sk fn.body fn.sc=true)
  (h:runF gcx call fn ds=some d) (h270:f=270→∃elt g tg sc pc p,fn.body= .cons (.ret (.cons (.lco elt g tg sc pc) .nil) [] p) .nil):zLF prog w G mg (rc + 1) f ds d:=by
 obtain ⟨fr,h1,h2⟩:=zAB (show bnd (args fn.params ds) (fun fr=>bnd ((Ex gcx call fn.body).xs fr) outR)=some d from h)
 obtain ⟨fl,h3,h4⟩:=zAB h2
 obtain ⟨hlen,hfr⟩:=zCK h1
 have hne:ds≠[]:=fun e=>by
  rw [e] at hlen
  obtain ⟨_,ck⟩:=zAN (show zAA (fn.sc.kind== .function) (zAA (!fn.sc.isCoroutine) (zAA (!fn.sc.isGenerator) (zAA (decide fn.params.Nodup) (zAA (fn.params.all fun x=>zBc (fn.sc.names.lookup (nm x))) (!fn.params.isEmpty) false) false) false) false) false=true from ck)
  obtain ⟨_,ck⟩:=zAN ck
  obtain ⟨_,ck⟩:=zAN ck
  obtain ⟨_,ck⟩:=zAN ck
  obtain ⟨_,ck⟩:=zAN ck
  have:fn.params=[]:=List.eq_nil_of_length_eq_zero hlen
  rw [this] at ck; cases ck
 obtain ⟨a,o,fd,e1,e2,e3,enter⟩:=zBo (rc:=rc) (prog:=prog) W at_ ck
 refine ⟨hne,a,o,fd,e1,e2,e3, ?_⟩
 intro A P s vs Q E glob live hand hp dep un r hQ
 refine enter A P s vs Q E glob live hand hp dep un (by rw [r.length,hlen]) fun env s₁ O K hnew hsc hgl V V hFC=> ?_
 have F:=hFC fr fun x sl e=>by
  rcases hfr x sl e with ⟨d',e1,hm⟩ | e
  ·obtain ⟨v,hv,rv⟩:=zDo r hm
   exact ⟨v,d',e1,hv,rv⟩
  ·cases e
 by_cases hf:f=270
 ·obtain ⟨elt,g,tg,sc,pc,p,hb⟩:=h270 hf
  rw [hb] at h3 sk ⊢
  obtain ⟨f1,h5,h6⟩:=zAB (show bnd (bnd ((Ev gcx call (.lco elt g tg sc pc)).v fr) fun d=>some (Fl.ret d)) (fun f=>zKD f (Ex gcx call .nil).xs)=some fl from h3)
  obtain ⟨d',h7,h8⟩:=zAB h5
  cases h8
  cases (show some (Fl.ret d')=some fl from h6)
  cases (show some d'=some d from h4)
  have k1:(Ck (.lco elt g tg sc pc)).k env.scope=true:=by
   obtain ⟨k1,_⟩:=zAN (show zAA ((Ck (.cons (.lco elt g tg sc pc) .nil)).k fn.sc) true false=true from sk)
   rw [hsc]; exact (zBH k1).1
  have ae:=zEo (rc:=rc) (gcx:=gcx) W hc hsort
  refine wpAny_execs_cons (wpAny_Return_some ((ae _).sf (A.deeper env) env _ fr s₁ _ _ d F.cx k1 h7 fun v s' k fsh=> ?_))
  have KK:=Keeps.trans K k
  have fsh':=fsh.back K
  have fin:zCY w P s s' v d:=by
   induction d using PyData.casesOn with
   | list xs=>
    obtain ⟨b,vs',c,e,hb,hg,rr⟩:=fsh'
    exact ⟨b,vs',c,e,hb,hg,rr.step (fun V V V e=>e) fun x V V y=>y.imp .inl id⟩
   | dict kvs=>
    obtain ⟨b,e,hb,rr⟩:=fsh'
    exact ⟨b,e,hb,rr.step (fun V e=>e) (fun V V V e=>e) fun x V V y=>y.imp .inl id⟩
   | _=>exact RdW.step (fun V V V e=>e) (fun x V V y=> .inl y) fsh'
  have ndict: ∀kvs,d≠ .dict kvs:=fun kvs e=>by
   subst e
   obtain ⟨l,_,q⟩:=zAB (show bnd _ zDk=some (PyData.dict kvs) from h7)
   obtain ⟨_,q⟩:=zAD (show zAA (zAI l) (some (PyData.list l)) none=some (PyData.dict kvs) from q)
   cases q
  exact hQ v s' KK (fin.rdw live ndict) fun V=>fin
 ·refine (zGy (rc:=rc) W hc hsort hsw fn.body).2 (A.deeper env) env P _ O fr s₁ _ _ fl F (by rw [hsc]; exact sk) h3 fun fw s' O' k n fo=> ?_
  have KK:=zCA K k hnew
  induction fl with
  | next fr'=>
   cases (show some PyData.none=some d from h4)
   obtain ⟨rfl,_⟩:=fo
   exact hQ .none s' KK .none fun e=>absurd e hf
  | cont fr'=>cases h4
  | ret d'=>
   cases (show some d'=some d from h4)
   obtain ⟨v,rfl,rv⟩:=fo
   exact hQ v s' KK (rv.step (fun V V V e=>e) fun b V V y=> .inl y) fun e=>absurd e hf
end
section
variable {prog:Program} {w:World} {G:Heap} {ga:Addr×Addr} {mg:Str→Option Value} {gcx:Nat→Option D} {rc:Nat}
abbrev swE (p1 p2 p3:Pos) (x:Nat):Expr:= .Subscript (.Name (nm 0) p1) (.Name (nm x) p2) p3
theorem zNp:zCW nm Fb271=[.Assign [.Tuple [swE ⟨999,4,999,5⟩ ⟨999,6,999,9⟩ ⟨999,4,999,10⟩ 16,swE ⟨999,12,999,13⟩ ⟨999,14,999,19⟩ ⟨999,12,999,20⟩ 62] 0 ⟨999,4,999,20⟩]
  (.Tuple [swE ⟨999,24,999,25⟩ ⟨999,26,999,31⟩ ⟨999,24,999,32⟩ 62,swE ⟨999,34,999,35⟩ ⟨999,36,999,39⟩ ⟨999,34,999,40⟩ 16] 0 ⟨999,23,999,41⟩) ⟨999,4,999,41⟩]:=by kernel_rfl
theorem zKP {A:Around} {env:Env} {s:Shared} {m:Str→Option Value} {x:Nat} {p:Pos} {v:Value} {Q:Value→Shared→Prop} {E:Value→Shared→Prop} (hk:env.scope.kind= .function) (hl:kN env.scope x=some .local) (hn:s.heap.Ns env.locals m) (hm:m (nm x)=some v) (hQ:Q v s):
  wpAny (model prog w) A (eval (.Name (nm x) p) env) Q E s:=wpAny_Name (wpAny_loadName_local hk hl hn hm hQ) (zBT x)
theorem zNH {A:Around} {env:Env} {s:Shared} {m:Str→Option Value} {x:Nat} {p1 p2 p3:Pos} {a:Addr} {vs:Array Value} {c i:Nat} {t:Tok} {v:Value} {Q:Value→Shared→Prop} {E:Value→Shared→Prop} (hk:env.scope.kind= .function) (h0:kN env.scope 0=some .local) (hl:kN env.scope x=some .local)
  (hn:s.heap.Ns env.locals m) (hm0:m (nm 0)=some (.ref a)) (hm:m (nm x)=some (.int i t)) (g:s.heap.get? a=some (zBz vs c)) (hs:vs.size≤100000) (hv:vs[i]? =some v) (hQ:Q v s):wpAny (model prog w) A (eval (swE p1 p2 p3 x) env) Q E s:=by
 have hi:i < vs.size:=by obtain ⟨h,_⟩:=Array.getElem?_eq_some_iff.mp hv; exact h
 refine wpAny_Subscript_Name_late (zKP hk h0 hn hm0 (zKP hk hl hn hm ⟨"list","list.__getitem__",slot_list_getitem.lookup,⟨_,g,rfl⟩, ?_⟩))
 exact wpAny_getItem_list (zAL g) (Int.natCast_nonneg i) (zCi i (by lia)) (by simpa using hv) hQ
theorem zNG {A:Around} {env:Env} {s:Shared} {m:Str→Option Value} {x:Nat} {p1 p2 p3:Pos} {a:Addr} {vs:Array Value} {c i:Nat} {t:Tok} {v:Value} {Q:Unit→Shared→Prop} {E:Value→Shared→Prop} (hk:env.scope.kind= .function) (h0:kN env.scope 0=some .local) (hl:kN env.scope x=some .local)
  (hn:s.heap.Ns env.locals m) (hm0:m (nm 0)=some (.ref a)) (hm:m (nm x)=some (.int i t)) (g:s.heap.get? a=some (zBz vs c)) (hs:vs.size≤100000) (hi:i < vs.size)
  (hQ: ∀h' c',h'.get? a=some (zBz (vs.setIfInBounds i v) c')→Heap.SameBut a s.heap h'→Q () {s with heap:=h'}):wpAny (model prog w) A (assign (swE p1 p2 p3 x) env v) Q E s:=by
 rw [assign_Subscript]
 refine wpAny_bind (wpAny_holding (zKP hk h0 hn hm0 (wpAny_bind (wpAny_holding (zKP hk hl hn hm (wpAny_bind (wpAny_standAt (wpAny_bind (wpAny_holding (zEF g hs hi fun h' c' e hsb=> ?_))))))))))
 exact wpAny_releaseD (hQ h' c' e hsb)
theorem zNo (W:Wd w G ga mg gcx) (at_:zHC G mg ga 271 ⟨[0,16,62],Fs271,Fb271⟩):zEh prog w G mg (rc + 1):=by
 have ck:FnS ⟨[0,16,62],Fs271,Fb271⟩=true:=by decide +kernel
 obtain ⟨fa,o,fd,e1,e2,e3,enter⟩:=zBo (rc:=rc) (prog:=prog) W at_ ck
 refine ⟨fa,o,fd,e1,e2,e3, ?_⟩
 intro A P s a vs c i j ti tj u v Q E' glob live hPa hand hp dep un g hs hu hv hQ
 refine enter A P s _ Q E' glob live hand hp dep un rfl fun env s₁ O K hnew hsc hgl _ ⟨m,hn,hold⟩ hFC=> ?_
 have F:=hFC [] fun x sl e=>by cases e
 have hk:env.scope.kind= .function:=F.fw.kind
 have l0:kN env.scope 0=some .local:=by rw [hsc]; decide +kernel
 have l1:kN env.scope 16=some .local:=by rw [hsc]; decide +kernel
 have l2:kN env.scope 62=some .local:=by rw [hsc]; decide +kernel
 have loc: ∀{x:Nat} {v:Value},Holds env s₁.heap m x v→kN env.scope x=some .local→m (nm x)=some v:=fun h hl=>by
  rcases h with h | h
  ·exact h.2
  ·rw [hl] at h; cases h.1
 have m0:m (nm 0)=some (.ref a):=loc (hold 0 (.ref a) (by simp)) l0
 have m1:m (nm 16)=some (.int i ti):=loc (hold 16 (.int i ti) (by simp)) l1
 have m2:m (nm 62)=some (.int j tj):=loc (hold 62 (.int j tj) (by simp)) l2
 have hi:i < vs.size:=by obtain ⟨h,_⟩:=Array.getElem?_eq_some_iff.mp hu; exact h
 have hj:j < vs.size:=by obtain ⟨h,_⟩:=Array.getElem?_eq_some_iff.mp hv; exact h
 have g1:=Keeps.get K g
 have hal:a≠env.locals:=fun e=>by rw [hnew env.locals F.fw.loc |> fun h=>(e▸h:s.heap.get? a=none)] at g; cases g
 rw [show zCW nm (Fn.mk [0,16,62] Fs271 Fb271).body=_ from zNp]
 refine wpAny_execs_cons ?_
 rw [exec_Assign]
 refine wpAny_bind (wpAny_standAt ?_)
 refine wpAny_bind (wpAny_of_eq (a:=false) rfl ?_)
 rw [if_neg (by decide)]
 rw [arm_eval_Tuple]
 refine wpAny_bind (wpAny_bind (wpAny_standAt (wpAny_bind ?_)))
 refine Calls.spliced_cons (zNH hk l0 l2 hn m0 m2 g1 hs hv ?_)
 refine Calls.spliced_cons (zNH hk l0 l1 hn m0 m1 g1 hs hu ?_)
 refine Calls.spliced_nil ?_
 refine wpAny_newTuple ?_ (by rw [sizeLine_eq]; simp)
 have zCp:(s₁.heap.push {cls:= .type "tuple",data:= .seq #[v,u]}).IsTuple s₁.heap.objs.size #[v,u]:=zAt (Heap.get?_push_size _ rfl)
 have q2:Keeps s₁ {s₁ with heap:=s₁.heap.push {cls:= .type "tuple",data:= .seq #[v,u]}}:=Keeps.push s₁ _
 have F2:=F.keeps q2
 obtain ⟨r,hr,hrn⟩:=zCe (ts:=[swE ⟨999,4,999,5⟩ ⟨999,6,999,9⟩ ⟨999,4,999,10⟩ 16,swE ⟨999,12,999,13⟩ ⟨999,14,999,19⟩ ⟨999,12,999,20⟩ 62]) (vs:=[swE ⟨999,24,999,25⟩ ⟨999,26,999,31⟩ ⟨999,24,999,32⟩ 62,swE ⟨999,34,999,35⟩ ⟨999,36,999,39⟩ ⟨999,34,999,40⟩ 16]) (k1:=0) (k2:=0) (p1:=⟨999,4,999,20⟩) (p2:=⟨999,23,999,41⟩) (env:=env) rfl
 rw [hr]
 refine wpAny_bind (wpAny_pure ?_)
 induction r with
 | some names=>
  obtain ⟨line,h1,h2⟩:=hrn names rfl
  have:names=[]:=h1
  rw [this] at h2; cases h2
 | none=>
  show wpAny _ _ (do assignAll (.ref s₁.heap.objs.size) [assign (.Tuple [swE ⟨999,4,999,5⟩ ⟨999,6,999,9⟩ ⟨999,4,999,10⟩ 16,swE ⟨999,12,999,13⟩ ⟨999,14,999,19⟩ ⟨999,12,999,20⟩ 62] 0 ⟨999,4,999,20⟩) env]; pure Flow.next) _ _ _
  refine wpAny_bind ?_
  show wpAny _ _ (assign (.Tuple [swE ⟨999,4,999,5⟩ ⟨999,6,999,9⟩ ⟨999,4,999,10⟩ 16,swE ⟨999,12,999,13⟩ ⟨999,14,999,19⟩ ⟨999,12,999,20⟩ 62] 0 ⟨999,4,999,20⟩) env (.ref s₁.heap.objs.size)) _ _ _
  rw [arm_assign_Tuple]
  refine wpAny_bind (wpAny_standAt (zCM F2.hand zCp rfl rfl fun h' he=> ?_))
  have q3:Keeps {s₁ with heap:=s₁.heap.push {cls:= .type "tuple",data:= .seq #[v,u]}} {s₁ with heap:=h'}:=⟨h',s₁.toks,rfl,fun a o e=>he a o (zBG (P:=fun V=>False) e) e⟩
  have K3:Keeps s {s₁ with heap:=h'}:=Keeps.trans K (Keeps.trans q2 q3)
  have hn3:h'.Ns env.locals m:=by
   obtain ⟨o,es,ep,ho,r⟩:=hn
   exact ⟨o,es,ep,Keeps.get (Keeps.trans q2 q3) ho,r⟩
  show wpAny _ _ (assignInOrder [assign (swE ⟨999,4,999,5⟩ ⟨999,6,999,9⟩ ⟨999,4,999,10⟩ 16) env,assign (swE ⟨999,12,999,13⟩ ⟨999,14,999,19⟩ ⟨999,12,999,20⟩ 62) env] [v,u]) _ _ _
  unfold assignInOrder
  refine wpAny_bind (wpAny_holding (zNG hk l0 l1 hn3 m0 m1 (Keeps.get (Keeps.trans q2 q3) g1) hs hi fun h4 c4 g4 hs4=> ?_))
  have hn4:h4.Ns env.locals m:=hn3.sameBut hs4 (Ne.symm hal)
  unfold assignInOrder
  refine wpAny_bind (wpAny_holding (zNG hk l0 l2 hn4 m0 m2 g4 (by simpa using hs) (by simpa using hj) fun h5 c5 g5 hs5=> ?_))
  unfold assignInOrder
  refine wpAny_pure (wpAny_pure ?_)
  refine wpAny_execs_nil (hQ _ c5 ?_ g5)
  have k4:zAC (· =a) {s₁ with heap:=h'} {s₁ with heap:=h4}:=zAC.same (s:={s₁ with heap:=h'}) (t:=s₁.toks) hs4 rfl
  have k5:zAC (· =a) {s₁ with heap:=h4} {s₁ with heap:=h5}:=zAC.same (s:={s₁ with heap:=h4}) (t:=s₁.toks) hs5 rfl
  exact ((zAC.of (O:=(· =a)) K3).trans k4 fun V V V h=>h).trans k5 fun V V V h=>h
end
noncomputable def Tr.items {α:Type} (t:Tr α):List α:=Tr.rec (motive:=fun V=>List α) [] (fun a=>[a]) (fun V V V l r=>app l r) t
theorem Tr.at_mem {α:Type} {i:Nat} {a:α}: ∀{t:Tr α},t.at i=some a→a∈t.items
 | .nil,h=>by cases h
 | .leaf b,h=>by cases h; exact List.mem_cons_self
 | .node k l r,h=>by
  have h:zAA (Nat.blt i k) (l.at i) (r.at i)=some a:=h
  show a∈app l.items r.items
  rw [zAa]
  cases hb:Nat.blt i k with
  | true=>rw [hb] at h; exact List.mem_append_left _ (Tr.at_mem h)
  | false=>rw [hb] at h; exact List.mem_append_right _ (Tr.at_mem h)
section
variable {prog:Program} {w:World} {G:Heap} {ga:Addr×Addr} {mg:Str→Option Value} {rc:Nat}
theorem zPh {lows:List (Nat→List D→Option D)} {own:Nat→List D→Option D} (hl: ∀c∈lows,zAW prog w G mg c rc) (ho:zAW prog w G mg own rc):zAW prog w G mg (sel lows own) rc:=by
 intro f ds d h
 obtain ⟨k,h1,h⟩:=zAB (show bnd (rkT.at f) (fun k=>bnd (zFW (app lows [own]) k) fun c=>bnd (c f ds) some)=some d from h)
 obtain ⟨c,h2,h⟩:=zAB h
 obtain ⟨d',h3,h4⟩:=zAB h
 cases h4
 rw [zEK,zAa] at h2
 rcases List.mem_append.mp (List.mem_of_getElem? h2) with hm | hm
 ·exact hl c hm f ds d h3
 ·rw [List.mem_singleton.mp hm] at h3; exact ho f ds d h3
theorem zAn {c:Nat→List D→Option D} {rc':Nat} (h:zAW prog w G mg c rc) (hl:rc≤rc'):zAW prog w G mg c rc':=fun f ds d e=>(show zLF prog w G mg rc f ds d from h f ds d e).le hl
def zNk (G:Heap) (mg:Str→Option Value) (ga:Addr×Addr) (p:Nat×Fn):Prop:=zHC G mg ga p.1 p.2∧FnS p.2=true∧Sk p.2.body p.2.sc=true∧(p.1=270→∃elt g tg sc pc q,p.2.body= .cons (.ret (.cons (.lco elt g tg sc pc) .nil) [] q) .nil)
theorem zPz (W:Wd w G ga mg gc) (hsort:zFN prog w) (hs: ∀rc,zEh prog w G mg (rc + 1)) {lows:List (Nat→List D→Option D)} {tab:Tr (Nat×Fn)} (m:Nat) (hl: ∀c∈lows,zAW prog w G mg c (m + 1)) (ht: ∀p∈tab.items,zNk G mg ga p): ∀n,zAW prog w G mg (lev lows tab n) (m + 1 + n):=by
 intro n
 induction n with
 | zero=>intro f ds d h; cases h
 | succ n ih=>
  intro f ds d h
  obtain ⟨p,h1,h⟩:=zAB (show bnd (tab.at f) (fun p=>zAA (Nat.beq p.1 f) (runF gc (sel lows (lev lows tab n)) p.2 ds) none)=some d from h)
  obtain ⟨h2,h3⟩:=zAD h
  have h2:=Nat.eq_of_beq_eq_true h2
  obtain ⟨g1,g2,g3,g4⟩:=ht p (Tr.at_mem h1)
  rw [h2] at g1 g4
  have hw:zEh prog w G mg (m + 1 + n):=by
   have:=hs (m + n)
   rwa [show m + n + 1=m + 1 + n by lia] at this
  exact zMj (rc:=m + 1 + n) W (zPh (fun c hc=>zAn (hl c hc) (by lia)) ih) hsort hw g1 g2 g3 h3 g4
end
abbrev pw:Program:=PySem.Challenge.pw_rh0057_01
noncomputable abbrev p0:Pos:={line:=0,col:=0,endLine:=0,endCol:=0}
abbrev hBO:List Stmt:=behindTheImports pw
section
def hnt {α:Type} (d:α) (l:List α):Nat→α:=List.rec (fun V=>d) (fun h V f i=>Nat.rec h (fun j V=>f j) i) l
def hst (i:Nat):Stmt:=hnt (.Pass p0) hBO i
noncomputable abbrev hvi (n:Nat):Value:= .int n 0
noncomputable abbrev hnu (t:Nat):Value:= .str "num" t
noncomputable abbrev hoL (c:String) (l:List Value):Obj:={cls:= .type c,data:= .seq ⟨l⟩}
abbrev zCp (l:List Value):Obj:=hoL "tuple" l
abbrev hlst (l:List Value):Obj:=hoL "list" l
noncomputable abbrev zMe (c:Value) (l:List Value):Obj:={cls:=c,data:= .fields ⟨l⟩}
noncomputable abbrev hcP (t:Nat):Value:= .str "/claim/cut.py" t
def hlo (l:List (Str×NameKind)):Nat→List Value:=List.rec (fun V=>[]) (fun x V f t=>match x.2 with | .local=> .str x.1 t :: f (t + 1) | _=>f t) l
def hcd (n q:Str) (t l g u a:Nat) (b:Bool) (x y z:Value) (v:Nat):Obj:=
 zMe (.type "code") [.str n t, .str q (t + 1),hcP (t + 2),hvi l,hvi g,hvi 0,hvi 0,hvi u, .ref a, .bool b,hvi 181, .ref (a + 1), .none,x,y,z,hvi v,hvi l,hcP (v + 1)]
def hfo (q:Str→Str) (m:Value) (a t:Nat) (g:Bool):Stmt→Nat→Obj
 | .FunctionDef n r b _ _ _ s _ _ p=>
  let f (c:Value) (g:Nat) (m d:Value):Obj:={cls:=c,data:= .func {name:=n,qualname:=q n,params:=r,body:= .stmts b,scope:=s,globals:=g,closure:=[],defaults:= .none,kwdefaults:= .none,pyModule:=m,code:=d}}
  match g with
  | true=>
   let l:=hlo s.names (t + 3)
   hnt default [zCp [],zMe .none [],zCp l,zCp [],f .none 0 .none .none,hcd n (q n) t p.line r.args.length 3 a true (.ref (a + 2)) (.ref (a + 3)) (.ref (a + 4)) (t + 3 + l.length),f (.type "function") 3 m (.ref (a + 5))]
  | false=>hnt default [zCp [],zMe .none [],f .none 0 .none .none,hcd n (q n) t p.line r.args.length 3 a true .none .none (.ref (a + 2)) (t + 3),f (.type "function") 3 m (.ref (a + 3))]
 | _=>fun V=>default
abbrev hRR:=Nat×(Nat→Obj)×(List (Str×Nat×Value)→List (Str×Nat×Value))×(List Value→List Value)
noncomputable def hN (l r:hRR):hRR:=⟨l.1,fun i=>Bool.rec (l.2.1 i) (r.2.1 i) (Nat.ble r.1 i),fun x=>l.2.2.1 (r.2.2.1 x),fun x=>l.2.2.2 (r.2.2.2 x)⟩
def hFG (g:Bool) (d k:Nat→Nat) (m:Value) (i a t:Nat):hRR:=⟨a,fun j=>hfo id m a t g (hst i) (Nat.sub j a),
 fun x=>match hst i with | .FunctionDef n _ _ _ _ _ s _ _ _=>(n,k (hlo s.names 0).length + t, .ref (d a + 1)) :: x | _=>x,
 fun x=>match hst i with | .FunctionDef _ _ _ _ _ _ _ _ _ p=>hvi p.line :: hvi p.col :: .ref (d a) :: x | _=>x⟩
def hF:=hFG true (· + 5) (· + 5)
def hG:=hFG false (· + 3) fun V=>5
def hD (n:Str) (t:Nat) (v:Value) (a:Nat) (l:List Obj):hRR:=⟨a,fun j=>hnt default l (Nat.sub j a),fun x=>(n,t,v) :: x,id⟩
noncomputable abbrev hm1:Value:= .str "cas.errors" 187
noncomputable abbrev hm2:Value:= .str "cas.ints" 220
noncomputable abbrev hm3:Value:= .str "cas.rats" 274
noncomputable abbrev hm4:Value:= .str "cas.terms" 371
noncomputable abbrev hm5:Value:= .str "cas.termorder" 485
noncomputable abbrev hm6:Value:= .str "cas.simp" 621
noncomputable abbrev hm7:Value:= .str "cas.expand" 821
noncomputable abbrev hm8:Value:= .str "cas.faulhaber" 892
noncomputable abbrev hm9:Value:= .str "cas.zpoly" 926
noncomputable abbrev zHD:Value:= .str "cas.qpoly" 1045
noncomputable abbrev zMd:Value:= .str "cas.ratfun" 1170
noncomputable abbrev zLQ:Value:= .str "cas.fterms" 1240
noncomputable abbrev hm13:Value:= .str "cas.zdiv" 1318
noncomputable abbrev hm14:Value:= .str "cas.resultants" 1363
noncomputable abbrev hm15:Value:= .str "cas.zgcd" 1403
noncomputable abbrev zJM:Value:= .str "cas.sturm" 1438
noncomputable abbrev zIM:Value:= .str "cas.roots" 1532
noncomputable abbrev zPK:Value:= .str "cas.dispersion" 1668
noncomputable abbrev zOj:Value:= .str "cas.mat" 1728
noncomputable abbrev hm20:Value:= .str "cas.linear" 1772
noncomputable abbrev zMc:Value:= .str "cas.gosper" 1794
noncomputable abbrev hm22:Value:= .str "cas.subst" 1875
noncomputable abbrev zLP:Value:= .str "cas.sums" 1896
noncomputable abbrev zQO:Value:= .str "law_rh0057_01" 1982
def hg1:hRR:=hN (hN (hN (hD "CasFail" 219 (.ref 31) 35 []) (hF hm2 3 35 222)) (hF hm2 4 42 230)) (hN (hF hm2 5 49 240) (hF hm2 6 56 249))
def hg2:hRR:=hN (hN (hN (hN (hF hm2 7 63 258) (hG hm2 8 70 268)) (hN (hD "R0" 278 (.ref 75) 75 [zCp [.int 0 276,.int 1 277]]) (hD "R1" 281 (.ref 76) 76 [zCp [.int 1 279,.int 1 280]]))) (hN (hN (hD "MOST_BITS" 283 (.int 200000 282) 77 []) (hF hm3 13 77 284)) (hN (hF hm3 14 84 293) (hF hm3 15 91 301)))) (hN (hN (hN (hF hm3 16 98 309) (hF hm3 17 105 317)) (hN (hF hm3 18 112 325) (hF hm3 19 119 332))) (hN (hN (hF hm3 20 126 339) (hF hm3 21 133 348)) (hF hm3 22 140 357)))
def hg3:hRR:=hN (hN (hN (hN (hF hm3 23 147 364) (hD "T_ZERO" 376 (.ref 154) 154 [zCp [hnu 373,.int 0 374,.int 1 375]])) (hN (hD "T_ONE" 380 (.ref 155) 155 [zCp [hnu 377,.int 1 378,.int 1 379]]) (hD "T_MINUS" 385 (.ref 156) 156 [zCp [hnu 381,.int (-1) 383,.int 1 384]]))) (hN (hN (hD "MOST_NARROW" 387 (.int 100 386) 157 []) (hF hm4 29 157 388)) (hN (hF hm4 30 164 397) (hF hm4 31 171 404)))) (hN (hN (hN (hF hm4 32 178 411) (hF hm4 33 185 418)) (hN (hF hm4 34 192 426) (hF hm4 35 199 433))) (hN (hN (hF hm4 36 206 440) (hF hm4 37 213 447)) (hF hm4 38 220 455)))
def hg4:hRR:=hN (hN (hN (hN (hG hm4 39 227 465) (hG hm4 40 232 471)) (hF hm4 41 237 477)) (hN (hD "RANKS" 511 (.ref 244) 244 [default]) (hF hm5 44 245 512))) (hN (hN (hN (hF hm5 45 252 520) (hG hm5 46 259 528)) (hF hm5 47 264 534)) (hN (hF hm5 48 271 541) (hF hm5 49 278 548)))
def hg5:hRR:=hN (hN (hN (hN (hF hm5 50 285 558) (hF hm5 51 292 566)) (hN (hF hm5 52 299 576) (hF hm5 53 306 589))) (hN (hN (hF hm5 54 313 601) (hF hm5 55 320 613)) (hN (hD "ZERO" 626 (.ref 327) 327 [zCp [hnu 623,.int 0 624,.int 1 625]]) (hD "ONE" 630 (.ref 328) 328 [zCp [hnu 627,.int 1 628,.int 1 629]])))) (hN (hN (hN (hD "MINUS_ONE" 635 (.ref 329) 329 [zCp [hnu 631,.int (-1) 633,.int 1 634]]) (hD "HALF_simp" 639 (.ref 330) 330 [zCp [hnu 636,.int 1 637,.int 2 638]])) (hN (hD "EXP_ONE" 642 (.ref 332) 331 [zCp [.ref 328],zCp [.str "call" 640,.str "exp" 641,(.ref 331)]]) (hD "MOST_FACTORED" 646 (.int 1000000 645) 333 []))) (hN (hN (hD "MOST_FACTORIAL" 648 (.int 200 647) 333 []) (hD "ODD_CALLS" 652 (.ref 333) 333 [zCp [.str "sin" 649,.str "tan" 650,.str "atan" 651]])) (hN (hF hm6 65 334 653) (hF hm6 66 341 660))))
def hg6:hRR:=hN (hN (hN (hN (hF hm6 67 348 668) (hF hm6 68 355 676)) (hG hm6 69 362 686)) (hN (hN (hF hm6 70 367 692) (hF hm6 71 374 700)) (hF hm6 72 381 707))) (hN (hN (hN (hG hm6 73 388 722) (hF hm6 74 393 728)) (hF hm6 75 400 739)) (hN (hN (hF hm6 76 407 747) (hF hm6 77 414 764)) (hG hm6 78 421 772)))
def hg7:hRR:=hN (hN (hN (hN (hF hm6 79 426 778) (hF hm6 80 433 790)) (hN (hF hm6 81 440 797) (hF hm6 82 447 806))) (hN (hN (hG hm6 83 454 815) (hD "MOST_POWER_expand" 824 (.int 1000 823) 459 [])) (hN (hD "MOST_PRODUCTS" 826 (.int 300000 825) 459 []) (hD "MOST_LEVELS" 828 (.int 120 827) 459 [])))) (hN (hN (hN (hD "MOST_TERMS" 830 (.int 20000 829) 459 []) (hF hm7 89 459 831)) (hN (hG hm7 90 466 838) (hG hm7 91 471 844))) (hN (hN (hF hm7 92 476 850) (hF hm7 93 483 859)) (hN (hF hm7 94 490 868) (hG hm7 95 497 877))))
def hg8:hRR:=hN (hN (hN (hN (hF hm7 96 502 883) (hF hm8 98 509 894)) (hF hm8 99 516 903)) (hN (hN (hF hm8 100 523 915) (hF hm9 102 530 928)) (hF hm9 103 537 936))) (hN (hN (hN (hF hm9 104 544 943) (hG hm9 105 551 950)) (hG hm9 106 556 956)) (hN (hN (hF hm9 107 561 962) (hG hm9 108 568 970)) (hF hm9 109 573 976)))
def hg9:hRR:=hN (hN (hN (hN (hF hm9 110 580 984) (hF hm9 111 587 997)) (hN (hG hm9 112 594 1004) (hF hm9 113 599 1010))) (hN (hN (hG hm9 114 606 1018) (hF hm9 115 611 1024)) (hF hm9 116 618 1034))) (hN (hN (hN (hF zHD 118 625 1047) (hF zHD 119 632 1055)) (hF zHD 120 639 1062)) (hN (hN (hG zHD 121 646 1069) (hG zHD 122 651 1075)) (hF zHD 123 656 1081)))
def hg10:hRR:=hN (hN (hN (hN (hG zHD 124 663 1089) (hF zHD 125 668 1095)) (hN (hF zHD 126 675 1103) (hF zHD 127 682 1116))) (hN (hN (hF zHD 128 689 1126) (hF zHD 129 696 1139)) (hF zHD 130 703 1146))) (hN (hN (hN (hF zHD 131 710 1154) (hG zHD 132 717 1164)) (hD "F0" 1172 (.ref 724) 722 [hlst [],hlst [.ref 76],zCp [(.ref 722),(.ref 723)]])) (hN (hN (hD "F1" 1173 (.ref 727) 725 [hlst [.ref 76],hlst [.ref 76],zCp [(.ref 725),(.ref 726)]]) (hF zMd 136 728 1174)) (hF zMd 137 735 1184)))
def hg11:hRR:=hN (hN (hN (hN (hF zMd 138 742 1191) (hF zMd 139 749 1198)) (hN (hF zMd 140 756 1206) (hF zMd 141 763 1214))) (hN (hN (hF zMd 142 770 1221) (hF zMd 143 777 1229)) (hD "MOST_POWER_fterms" 1243 (.int 2000 1242) 784 []))) (hN (hN (hN (hF zLQ 146 784 1244) (hG zLQ 147 791 1251)) (hG zLQ 148 796 1257)) (hN (hN (hF zLQ 149 801 1263) (hF zLQ 150 808 1271)) (hF zLQ 151 815 1284)))
def hg12:hRR:=hN (hN (hN (hN (hF zLQ 152 822 1291) (hF zLQ 153 829 1302)) (hF zLQ 154 836 1310)) (hN (hN (hF hm13 156 843 1320) (hF hm13 157 850 1327)) (hF hm13 158 857 1339))) (hN (hN (hN (hF hm13 159 864 1355) (hG hm14 161 871 1365)) (hG hm14 162 876 1371)) (hN (hF hm14 163 881 1377) (hF hm14 164 888 1391)))
def hg13:hRR:=hN (hN (hN (hN (hF hm15 166 895 1405) (hF hm15 167 902 1414)) (hF hm15 168 909 1427)) (hN (hN (hF zJM 170 916 1440) (hF zJM 171 923 1447)) (hF zJM 172 930 1460))) (hN (hN (hN (hF zJM 173 937 1469) (hF zJM 174 944 1477)) (hG zJM 175 951 1485)) (hN (hN (hF zJM 176 956 1491) (hF zJM 177 963 1502)) (hG zJM 178 970 1511)))
def hg14:hRR:=hN (hN (hN (hN (hF zJM 179 975 1517) (hG zJM 180 982 1526)) (hN (hD "HALF_roots" 1536 (.ref 987) 987 [zCp [.int 1 1534,.int 2 1535]]) (hD "MOST_DIVIDED" 1540 (.int 10000000000 1539) 988 []))) (hN (hN (hF zIM 184 988 1541) (hF zIM 185 995 1549)) (hF zIM 186 1002 1556))) (hN (hN (hN (hF zIM 187 1009 1564) (hG zIM 188 1016 1579)) (hG zIM 189 1021 1585)) (hN (hN (hF zIM 190 1026 1591) (hF zIM 191 1033 1601)) (hF zIM 192 1040 1613)))
def hg15:hRR:=hN (hN (hN (hN (hF zIM 193 1047 1623) (hF zIM 194 1054 1634)) (hN (hF zIM 195 1061 1645) (hF zIM 196 1068 1658))) (hN (hN (hD "MOST_WALKED" 1671 (.int 1000 1670) 1075 []) (hD "MOST_TOLD" 1673 (.int 40 1672) 1075 [])) (hN (hD "MOST_NUMBERS" 1677 (.int 10000000 1676) 1075 []) (hD "MOST_WORK" 1681 (.int 1000000 1680) 1075 [])))) (hN (hN (hN (hG zPK 202 1075 1682) (hF zPK 203 1080 1688)) (hN (hF zPK 204 1087 1700) (hG zPK 205 1094 1710))) (hN (hN (hG zPK 206 1099 1716) (hG zPK 207 1104 1722)) (hF zOj 209 1109 1730)))
def hg16:hRR:=hN (hN (hN (hN (hF zOj 210 1116 1737) (hG zOj 211 1123 1745)) (hN (hF zOj 212 1128 1751) (hG zOj 213 1135 1760))) (hN (hN (hG zOj 214 1140 1766) (hF hm20 216 1145 1774)) (hG hm20 217 1152 1788))) (hN (hN (hN (hD "MOST_DEGREE" 1797 (.int 200 1796) 1157 []) (hF zMc 220 1157 1798)) (hF zMc 221 1164 1806)) (hN (hN (hF zMc 222 1171 1820) (hF zMc 223 1178 1828)) (hF zMc 224 1185 1840)))
def hg17:hRR:=hN (hN (hN (hN (hG zMc 225 1192 1849) (hF zMc 226 1197 1855)) (hN (hF zMc 227 1204 1863) (hF hm22 229 1211 1877))) (hN (hN (hG hm22 230 1218 1890) (hD "MOST_POWER_sums" 1899 (.int 200 1898) 1223 [])) (hD "MOST_RATIO" 1901 (.int 50 1900) 1223 []))) (hN (hN (hN (hF zLP 234 1223 1902) (hF zLP 235 1230 1912)) (hN (hG zLP 236 1237 1919) (hF zLP 237 1242 1925))) (hN (hN (hF zLP 238 1249 1935) (hF zLP 239 1256 1943)) (hG zLP 240 1263 1955)))
def hg18:hRR:=hN (hN (hN (hF zLP 241 1268 1961) (hG zLP 242 1275 1976)) (hN (hD "_law_n" 1986 (.ref 1280) 1280 [zCp [.str "sym" 1984,.str "n" 1985]]) (hF zQO 245 1281 1987))) (hN (hN (hF zQO 246 1288 1995) (hF zQO 247 1295 2003)) (hG zQO 248 1302 2017))
def hgA:hRR:=hN (hN (hN (hN (hN hg1 hg2) hg3) (hN hg4 hg5)) (hN (hN hg6 hg7) (hN hg8 hg9))) (hN (hN (hN (hN hg10 hg11) hg12) (hN hg13 hg14)) (hN (hN hg15 hg16) (hN hg17 hg18)))
noncomputable def hen (P:Params) (x:Str×Nat×Value):DictEntry:=⟨PyData.keyHash P x.1, .str x.1 x.2.1,x.2.2⟩
abbrev hdi (c:Value) (P:Params) (l:List (Str×Nat×Value)) (n:Nat):Obj:={cls:=c,data:= .dict ⟨l.map (hen P)⟩ n}
noncomputable abbrev hfr (l:List (Option Value)):Obj:={cls:= .type "frame",slots:=⟨l⟩}
def hes (k:Nat):List (Str×Nat×Value):=List.rec (fun V=>[]) (fun g V f i=>Nat.rec [] (fun j V=>g.2.2.1 (f j)) i) [hg1,hg2,hg3,hg4,hg5,hg6,hg7,hg8,hg9,hg10,hg11,hg12,hg13,hg14,hg15,hg16,hg17,hg18] k
def hts (k:Nat):List Value:=Nat.rec [] (fun V V=>hvi 2 :: hvi 0 :: .ref 20 :: List.rec (fun V=>[]) (fun g V f i=>Nat.rec [] (fun j V=>g.2.2.2 (f j)) i) [hg1,hg2,hg3,hg4,hg5,hg6,hg7,hg8,hg9,hg10,hg11,hg12,hg13,hg14,hg15,hg16,hg17,hg18] k) k
def hmk (k:Nat):Value:=hnt .none [.str "__main__" 164,hm2,hm3,hm4,hm5,hm6,hm6,hm7,hm9,zHD,zMd,zLQ,hm15,zJM,zIM,zOj,zMc,zLP,zQO] k
def hnO (P:Params) (k:Nat):Obj:=match (boot_o_3 P).data with
 | .dict ⟨x :: r⟩ _=>{cls:= .type "dict",data:= .dict ⟨{x with val:=hmk k} :: (r++(hes k).map (hen P))⟩ ((hes k).length + 9)}
 | _=>default
def hcF:List Stmt:=match hst 1 with | .ClassDef _ _ _ b _ _ _ _ _ _ _=>b | _=>[]
def hcE:Nat→Obj:=hfo (fun V=>"CasFail.__init__") hm1 22 201 true (hnt (.Pass p0) hcF 0)
def hcM:Str×Nat×Value:=("__module__",196,hm1)
noncomputable def hcL:List (Str×Nat×Value):=[("__firstlineno__",200, .int 2 199),("__init__",209, .ref 28),("__static_attributes__",212, .ref 29)]
def hsO (P:Params) (i:Nat):Obj:=Bool.rec (Bool.rec (hnt default [zCp [],default,hcd "<module>" "<module>" 182 1 0 0 11 false .none .none .none 185,hfr [some (.ref 13),some (.ref 3),some (.ref 3),none,some (hmk 0),none,some (.ref 0)],
  zCp [.type "Exception"],zMe (.type "builtin_function_or_method") [.builtin "type.__prepare__", .type "type"],hdi (.type "dict") P (hcM :: ("__qualname__",198, .str "CasFail" 197) :: hcL) 5,zCp [],zMe .none [hvi 4,hvi 4, .ref 27],
  hcd "CasFail" "CasFail" 191 2 0 0 18 false .none .none .none 194,hfr [some (.ref 20),some (.ref 3),some (.ref 17),none,some hm1,none,some (.ref 0)],
  hcE 0,hcE 1,hcE 2,hcE 3,hcE 4,hcE 5,hcE 6,zCp [.str "kind" 210, .str "text" 211],hdi (.type "dict") P (hcM :: List.append hcL [("__weakref__",214, .ref 32),("__doc__",215, .none)]) 3,
  {cls:= .type "type",data:= .cls {name:="CasFail",bases:=[.type "Exception"],mro:=[.ref 31, .type "Exception", .type "BaseException", .type "object"],ns:=30,qualname:="CasFail"},slots:=⟨[some (.ref 15),none,some (.str "CasFail" 189),some (.str "CasFail" 197),some (.builtin "Exception.__new__"),some (.bool true)]⟩},
  zMe (.type "getset_descriptor") [.str "__weakref__" 213, .ref 31, .builtin "ExceptionGroup.__weakref__", .none],zMe (.type "super") [.ref 31, .ref 31, .ref 31],zMe (.type "builtin_function_or_method") [.builtin "object.__init_subclass__", .ref 31]] (Nat.sub i 11)) (hnt default [boot_o_0 P,boot_o_1 P,default,default,boot_o_4 P,boot_o_5 P,boot_o_6 P,boot_o_7 P,boot_o_8 P,boot_o_9 P,boot_o_10 P] i) (Nat.ble i 10)) (Bool.rec (hgA.2.1 i) (hdi (.type "dict") P [("sym",487,.int 0 488),("call",489,.int 1 490),("sum",491,.int 2 492),("prod",493,.int 3 494),("num",495,.int 4 496),("pow",497,.int 5 498),("eq",499,.int 6 500),("list",501,.int 7 502)] 8) (Nat.beq i 244)) (Nat.ble 35 i)
def hob (P:Params) (k i:Nat):Obj:=Bool.rec (Bool.rec (Bool.rec (hsO P i) (Nat.rec (boot_o_2 P) (fun V V=>hdi .none P [("type.__subclasses__.Exception.0",216,hvi 31),("type.__subclasses__.Exception.n",217,hvi 1)] 2) k) (Nat.beq i 2)) (zMe .none (hts k)) (Nat.beq i 12)) (hnO P k) (Nat.beq i 3)
def hbt (P:Params) (k n:Nat):Nat→Nat→Nat→BT:=Nat.rec (fun V V=> .nil) (fun V g a b=>Bool.rec (.node (hob P k b) (g (Nat.add a a) (Nat.add a b)) (g (Nat.add a a) (Nat.add (Nat.add a a) b))) .nil (Nat.ble n b))
abbrev htr (P:Params) (k n:Nat):BT:=hbt P k n 11 1 0
abbrev heN:Env:={scope:=pw.main.scope,locals:=mainNs,globals:=mainNs,cells:=[],code:= .ref 13,frame:=some 14}
abbrev hsT (w:World) (k n t:Nat) (os:OsState):SharedT:={tree:=htr w.params k n,n:=n,life:={ },gens:={toList:=[]},drawn:={ },toks:=t,os:=os}
def H1 (P:Params):Heap:=absHeap (htr P 18 1307) 1307 {}
end
noncomputable def zFG (h:Heap) (a:Addr):FuncData:=match h.get? a with | some o=>(match o.data with | .func fd=>fd | _=>default) | none=>default
noncomputable def isFn (h:Heap) (a:Addr):Bool:=match h.get? a with | some o=>(match o.data with | .func V=>true | _=>false) | none=>false
noncomputable def zKp (h:Heap) (cd:Value) (q:Str):Bool:=match cd with | .ref c=>(match h.get? c with | some o=>(match o.data with | .fields vs=>(match (vs[1]? :Option Value) with | some (.str q' _)=>decide (q'=q) | _=>false) | _=>false) | none=>false) | _=>false
set_option tactic.hygienic true in
theorem zFI {h:Heap} {cd:Value} {q:Str} (x:zKp h cd q=true):h.CodeRec cd q:=by
 unfold zKp at x
 split at x
 ·rename_i c
  split at x
  ·rename_i o ho
   split at x
   ·rename_i vs hd
    split at x
    ·rename_i q' t hv
     exact ⟨c,o,vs,t,rfl,ho,hd,by rw [hv,of_decide_eq_true x]⟩
    ·cases x
   ·cases x
  ·cases x
 ·cases x
set_option tactic.hygienic true in
theorem zHZ {h:Heap} {a:Addr} (x:isFn h a=true): ∃o,h.get? a=some o∧o.data= .func (zFG h a):=by
 unfold isFn at x
 unfold zFG
 split at x
 ·rename_i o ho
  split at x
  ·rename_i fd hd
   exact ⟨o,ho,hd⟩
  ·cases x
 ·cases x
abbrev zDb (h:Heap) (a:Addr):=(isFn h a,(zFG h a).body,(zFG h a).scope,(zFG h a).closure,(zFG h a).globals,(zFG h a).builtins,zKp h (zFG h a).code (zFG h a).qualname)
abbrev zEV (fn:Fn):Bool×FuncBody×Scope×List (Str×Addr)×Addr×Addr×Bool:=(true, .stmts (zCW nm fn.body),fn.sc,[],mainGlobals,builtinsNs,true)
section
variable {h:Heap} {f:Nat} {fn:Fn} {a:Addr}
theorem zOn (h1:h.nsMap mainGlobals (nm f)=some (.ref a)) (h2:zDb h a=zEV fn) (h3: ∀vs,vs.length=fn.params.length→bindArgs (zFG h a) ⟨vs,[]⟩=pure ((fn.params.map nm).zip vs)):
  zHC h (h.nsMap mainGlobals) (mainGlobals,builtinsNs) f fn:=by
 obtain ⟨e1,e2⟩:=Prod.mk.inj h2
 obtain ⟨e2,e3⟩:=Prod.mk.inj e2
 obtain ⟨e3,e4⟩:=Prod.mk.inj e3
 obtain ⟨e4,e5⟩:=Prod.mk.inj e4
 obtain ⟨e5,e6⟩:=Prod.mk.inj e5
 obtain ⟨e6,e7⟩:=Prod.mk.inj e6
 obtain ⟨o,ho,hd⟩:=zHZ e1
 exact ⟨a,o,_,h1,ho,hd,e2,e3,e4,e5,e6,zFI e7,h3⟩
variable {sc:Scope} {b:S} {p1 p2 p3 p4:Nat}
theorem zOo (h1:h.nsMap mainGlobals (nm f)=some (.ref a)) (h2:zDb h a=zEV ⟨[p1],sc,b⟩) (h3: ∀v1,bindArgs (zFG h a) ⟨[v1],[]⟩=pure [(nm p1,v1)]):zHC h (h.nsMap mainGlobals) (mainGlobals,builtinsNs) f ⟨[p1],sc,b⟩:=
 zOn h1 h2 fun vs hv=>by
  obtain ⟨v1,r1,rfl,e1⟩:=cl hv
  obtain rfl:=cl0 e1
  exact h3 v1
theorem zQX (h1:h.nsMap mainGlobals (nm f)=some (.ref a)) (h2:zDb h a=zEV ⟨[p1,p2],sc,b⟩) (h3: ∀v1 v2,bindArgs (zFG h a) ⟨[v1,v2],[]⟩=pure [(nm p1,v1),(nm p2,v2)]):zHC h (h.nsMap mainGlobals) (mainGlobals,builtinsNs) f ⟨[p1,p2],sc,b⟩:=
 zOn h1 h2 fun vs hv=>by
  obtain ⟨v1,r1,rfl,e1⟩:=cl hv
  obtain ⟨v2,r2,rfl,e2⟩:=cl e1
  obtain rfl:=cl0 e2
  exact h3 v1 v2
theorem fnAt3 (h1:h.nsMap mainGlobals (nm f)=some (.ref a)) (h2:zDb h a=zEV ⟨[p1,p2,p3],sc,b⟩) (h3: ∀v1 v2 v3,bindArgs (zFG h a) ⟨[v1,v2,v3],[]⟩=pure [(nm p1,v1),(nm p2,v2),(nm p3,v3)]):zHC h (h.nsMap mainGlobals) (mainGlobals,builtinsNs) f ⟨[p1,p2,p3],sc,b⟩:=
 zOn h1 h2 fun vs hv=>by
  obtain ⟨v1,r1,rfl,e1⟩:=cl hv
  obtain ⟨v2,r2,rfl,e2⟩:=cl e1
  obtain ⟨v3,r3,rfl,e3⟩:=cl e2
  obtain rfl:=cl0 e3
  exact h3 v1 v2 v3
end
noncomputable def entL (h:Heap) (a:Addr):List DictEntry:=match h.get? a with | some o=>(match o.data with | .dict es _=>es.toList | _=>[]) | none=>[]
noncomputable def zPJ (e:DictEntry):Nat:=match e.key with | .str s _=>keyS s | _=>0
noncomputable def zJA (h:Heap) (a:Addr) (i:Nat):Option (Str×Value):=match (entL h a)[i]? with | some e=>(match e.key with | .str s _=>some (s,e.val) | _=>none) | none=>none
theorem zMa {v:Value} {s:Str}:v.isStr s=true→∃t,v= .str s t:=by
 intro q
 cases v with
 | str s' t=>exact ⟨t,by rw [eq_of_beq (show (s'==s)=true from q)]⟩
 | _=>cases q
theorem zOp {e:DictEntry} {s:Str} {t:Tok} (hk:e.key= .str s t) {l:List DictEntry}: ∀{i:Nat},(l.map zPJ).Nodup→l[i]? =some e→l.find? (fun e=>e.key.isStr s)=some e:=by
 induction l with
 | nil=>intro i _ h; cases h
 | cons x l ih=>
  intro i hn h
  rw [List.map_cons,List.nodup_cons] at hn
  rw [List.find?_cons]
  cases i with
  | zero=>
   obtain rfl:x=e:=Option.some.inj h
   rw [show x.key.isStr s=true by rw [hk]; exact beq_self_eq_true s]
  | succ i=>
   have h:l[i]? =some e:=h
   cases q:x.key.isStr s with
   | false=>exact ih hn.2 h
   | true=>
    obtain ⟨t',q⟩:=zMa q
    refine absurd ?_ hn.1
    rw [show zPJ x=zPJ e by unfold zPJ; rw [q,hk]]
    exact List.mem_map_of_mem (List.mem_of_getElem? h)
set_option tactic.hygienic true in
theorem zLl {h:Heap} {a:Addr} {i:Nat} {s:Str} {v:Value} (hd:dup ((entL h a).map zPJ)=true) (hi:zJA h a i=some (s,v)):h.nsMap a s=some v:=by
 have hn:=zEY _ hd
 unfold zJA at hi
 split at hi
 ·rename_i e he
  split at hi
  ·rename_i s' t hk
   cases hi
   unfold entL at hn he
   unfold Heap.nsMap
   split at he
   ·rename_i o ho
    rw [ho] at hn ⊢
    split at he
    ·rename_i es n hd
     dsimp only at hn ⊢
     rw [hd] at hn ⊢
     dsimp only at hn ⊢
     unfold nsFind findBy
     rw [←Array.find?_toList,zOp hk hn he]
     rfl
    ·cases he
   ·cases he
  ·cases hi
 ·cases hi
theorem zLp (P:Params):dup ((entL (H1 P) mainGlobals).map zPJ)=true:=by kernel_rfl
theorem zHX {P:Params} {s:Str} {v:Value} (i:Nat) (h:zJA (H1 P) mainGlobals i=some (s,v)):(H1 P).nsMap mainGlobals s=some v:=zLl (zLp P) h
abbrev FA (f:Nat) (fn:Fn):Prop:=∀P:Params,zHC (H1 P) ((H1 P).nsMap mainGlobals) (mainGlobals,builtinsNs) f fn
section
variable {f p1 p2 p3:Nat} {sc:Scope} {b:S} (a i:Nat)
theorem fq1 (h1: ∀P,zJA (H1 P) mainGlobals i=some (nm f, .ref a):=by intro P; kernel_rfl) (h2: ∀P,zDb (H1 P) a=zEV ⟨[p1],sc,b⟩:=by intro P; kernel_rfl) (h3: ∀P v1,bindArgs (zFG (H1 P) a) ⟨[v1],[]⟩=pure [(nm p1,v1)]:=by intros; kernel_rfl):FA f ⟨[p1],sc,b⟩:=fun P=>zOo (zHX i (h1 P)) (h2 P) (h3 P)
theorem fq2 (h1: ∀P,zJA (H1 P) mainGlobals i=some (nm f, .ref a):=by intro P; kernel_rfl) (h2: ∀P,zDb (H1 P) a=zEV ⟨[p1,p2],sc,b⟩:=by intro P; kernel_rfl) (h3: ∀P v1 v2,bindArgs (zFG (H1 P) a) ⟨[v1,v2],[]⟩=pure [(nm p1,v1),(nm p2,v2)]:=by intros; kernel_rfl):FA f ⟨[p1,p2],sc,b⟩:=fun P=>zQX (zHX i (h1 P)) (h2 P) (h3 P)
theorem fq3 (h1: ∀P,zJA (H1 P) mainGlobals i=some (nm f, .ref a):=by intro P; kernel_rfl) (h2: ∀P,zDb (H1 P) a=zEV ⟨[p1,p2,p3],sc,b⟩:=by intro P; kernel_rfl) (h3: ∀P v1 v2 v3,bindArgs (zFG (H1 P) a) ⟨[v1,v2,v3],[]⟩=pure [(nm p1,v1),(nm p2,v2),(nm p3,v3)]:=by intros; kernel_rfl):FA f ⟨[p1,p2,p3],sc,b⟩:=fun P=>fnAt3 (zHX i (h1 P)) (h2 P) (h3 P)
end
theorem fa_3:FA 3 ⟨[0,1],Fs3,Fb3⟩:=fq2 41 10
theorem fa_31:FA 31 ⟨[0],Fs31,Fb31⟩:=fq1 118 24
theorem fa_39:FA 39 ⟨[38],Fs39,Fb39⟩:=fq1 170 35
theorem fa_49:FA 49 ⟨[47,48],Fs49,Fb49⟩:=fq2 191 38
theorem fa_53:FA 53 ⟨[50],Fs53,Fb53⟩:=fq1 212 41
theorem fa_67:FA 67 ⟨[50],Fs67,Fb67⟩:=fq1 277 52
theorem fa_95:FA 95 ⟨[94,54],Fs95,Fb95⟩:=fq2 361 71
theorem zSP:FA 135 ⟨[134],Fs135,Fb135⟩:=fq1 536 102
theorem zSL:FA 140 ⟨[136],Fs140,Fb140⟩:=fq1 560 106
theorem zSH:FA 146 ⟨[0,1],Fs146,Fb146⟩:=fq2 586 110
theorem zSC:FA 154 ⟨[136,7],Fs154,Fb154⟩:=fq2 617 115
theorem zRz:FA 158 ⟨[136],Fs158,Fb158⟩:=fq1 638 118
theorem zRk:FA 182 ⟨[86],Fs182,Fb182⟩:=fq1 748 136
theorem zRR:FA 214 ⟨[136,9],Fs214,Fb214⟩:=fq2 875 156
theorem zRH:FA 235 ⟨[232],Fs235,Fb235⟩:=fq1 1001 177
theorem zQw:FA 266 ⟨[0],Fs266,Fb266⟩:=fq1 1115 199
theorem zNf:FA 271 ⟨[0,16,62],Fs271,Fb271⟩:=fq3 1134 202
theorem zQd:FA 316 ⟨[88,7],Fs316,Fb316⟩:=fq2 1301 232
theorem fa_26:FA 26 ⟨[24,22],Fs26,Fb26⟩:=fq2 83 19
theorem fa_66:FA 66 ⟨[50],Fs66,Fb66⟩:=fq1 263 50
theorem zSW:FA 113 ⟨[88],Fs113,Fb113⟩:=fq1 470 92
theorem zRc:FA 196 ⟨[88,38],Fs196,Fb196⟩:=fq2 800 145
theorem zQy:FA 262 ⟨[183],Fs262,Fb262⟩:=fq1 1103 197
theorem fa_28:FA 28 ⟨[0,1],Fs28,Fb28⟩:=fq2 97 21
theorem fa_32:FA 32 ⟨[0],Fs32,Fb32⟩:=fq1 125 25
theorem fa_71:FA 71 ⟨[16,62],Fs71,Fb71⟩:=fq2 312 57
theorem fa_76:FA 76 ⟨[16,62],Fs76,Fb76⟩:=fq2 298 55
theorem zSG:FA 147 ⟨[136],Fs147,Fb147⟩:=fq1 593 111
theorem zSE:FA 150 ⟨[136],Fs150,Fb150⟩:=fq1 605 113
theorem zRs:FA 166 ⟨[0,1],Fs166,Fb166⟩:=fq2 681 125
theorem zRT:FA 211 ⟨[0,1],Fs211,Fb211⟩:=fq2 863 154
theorem zQo:FA 288 ⟨[0,1,282],Fs288,Fb288⟩:=fq3 1184 211
theorem zRr:FA 169 ⟨[136,5],Fs169,Fb169⟩:=fq2 688 126
theorem zRm:FA 177 ⟨[175],Fs177,Fb177⟩:=fq1 721 131
theorem zRG:FA 236 ⟨[183],Fs236,Fb236⟩:=fq1 1060 186
theorem fa_97:FA 97 ⟨[94],Fs97,Fb97⟩:=fq1 366 72
theorem zRM:FA 227 ⟨[0,1],Fs227,Fb227⟩:=fq2 908 161
theorem zQq:FA 281 ⟨[136,218],Fs281,Fb281⟩:=fq2 1163 208
theorem zRo:FA 173 ⟨[0,1],Fs173,Fb173⟩:=fq2 709 129
theorem zQz:FA 260 ⟨[252,229],Fs260,Fb260⟩:=fq2 1098 196
theorem zSV:FA 120 ⟨[16,62],Fs120,Fb120⟩:=fq2 475 93
theorem zQl:FA 293 ⟨[0,1,282],Fs293,Fb293⟩:=fq3 1196 213
theorem zST:FA 123 ⟨[47,5],Fs123,Fb123⟩:=fq2 489 95
theorem zRh:FA 186 ⟨[183],Fs186,Fb186⟩:=fq1 769 139
theorem zQx:FA 265 ⟨[0,1],Fs265,Fb265⟩:=fq2 1108 198
theorem zRX:FA 205 ⟨[183,202],Fs205,Fb205⟩:=fq2 835 150
theorem zQf:FA 305 ⟨[16,62],Fs305,Fb305⟩:=fq2 1255 224
theorem zRW:FA 206 ⟨[183,38],Fs206,Fb206⟩:=fq2 842 151
theorem zRb:FA 198 ⟨[88,38],Fs198,Fb198⟩:=fq2 814 147
theorem zQh:FA 301 ⟨[88,38],Fs301,Fb301⟩:=fq2 1262 225
theorem zNc:FA 312 ⟨[88,38],Fs312,Fb312⟩:=fq2 1274 227
theorem fa_8:FA 8 ⟨[7],Fs8,Fb8⟩:=fq1 48 11
theorem fa_34:FA 34 ⟨[0,1],Fs34,Fb34⟩:=fq2 139 27
theorem fa_44:FA 44 ⟨[40],Fs44,Fb44⟩:=fq1 177 36
theorem fa_51:FA 51 ⟨[50],Fs51,Fb51⟩:=fq1 198 39
theorem fa_56:FA 56 ⟨[50],Fs56,Fb56⟩:=fq1 219 42
theorem fa_87:FA 87 ⟨[86],Fs87,Fb87⟩:=fq1 340 68
theorem fa_99:FA 99 ⟨[88,38],Fs99,Fb99⟩:=fq2 373 73
theorem zSO:FA 137 ⟨[136],Fs137,Fb137⟩:=fq1 543 103
theorem zSJ:FA 143 ⟨[136,142],Fs143,Fb143⟩:=fq2 572 108
theorem zSF:FA 148 ⟨[136,142],Fs148,Fb148⟩:=fq2 598 112
theorem zSB:FA 156 ⟨[136,7],Fs156,Fb156⟩:=fq2 624 116
theorem zRy:FA 160 ⟨[136],Fs160,Fb160⟩:=fq1 645 119
theorem zRe:FA 190 ⟨[88],Fs190,Fb190⟩:=fq1 790 143
theorem zRN:FA 226 ⟨[225,6,224],Fs226,Fb226⟩:=fq3 901 160
theorem zRC:FA 251 ⟨[10],Fs251,Fb251⟩:=fq1 1079 193
theorem zQv:FA 269 ⟨[267,268],Fs269,Fb269⟩:=fq2 1122 200
theorem zQp:FA 286 ⟨[136,151],Fs286,Fb286⟩:=fq2 1177 210
theorem fa_11:FA 11 ⟨[10],Fs11,Fb11⟩:=fq1 55 12
theorem fa_59:FA 59 ⟨[50],Fs59,Fb59⟩:=fq1 226 43
theorem fa_92:FA 92 ⟨[86,90],Fs92,Fb92⟩:=fq2 354 70
theorem zSM:FA 139 ⟨[0,1],Fs139,Fb139⟩:=fq2 555 105
theorem zRJ:FA 233 ⟨[136,232],Fs233,Fb233⟩:=fq2 929 164
theorem fa_21:FA 21 ⟨[7],Fs21,Fb21⟩:=fq1 74 15
theorem fa_29:FA 29 ⟨[0,1],Fs29,Fb29⟩:=fq2 104 22
theorem fa_37:FA 37 ⟨[24,22],Fs37,Fb37⟩:=fq2 163 34
theorem fa_73:FA 73 ⟨[69,70],Fs73,Fb73⟩:=fq2 284 53
theorem fa_79:FA 79 ⟨[16,62],Fs79,Fb79⟩:=fq2 305 56
theorem fa_61:FA 61 ⟨[50,38],Fs61,Fb61⟩:=fq2 243 46
theorem zRx:FA 161 ⟨[0,1],Fs161,Fb161⟩:=fq2 650 120
theorem zRZ:FA 200 ⟨[86],Fs200,Fb200⟩:=fq1 821 148
theorem zRD:FA 240 ⟨[183],Fs240,Fb240⟩:=fq1 1067 187
theorem fa_85:FA 85 ⟨[40],Fs85,Fb85⟩:=fq1 326 59
theorem zRp:FA 172 ⟨[136],Fs172,Fb172⟩:=fq1 702 128
theorem zRS:FA 212 ⟨[0,1],Fs212,Fb212⟩:=fq2 870 155
theorem zRA:FA 256 ⟨[252],Fs256,Fb256⟩:=fq1 1093 195
theorem zRq:FA 171 ⟨[0,1],Fs171,Fb171⟩:=fq2 695 127
theorem zRE:FA 238 ⟨[183],Fs238,Fb238⟩:=fq1 1053 185
theorem zSa:FA 105 ⟨[47,48],Fs105,Fb105⟩:=fq2 392 76
theorem zRO:FA 223 ⟨[0,1],Fs223,Fb223⟩:=fq2 894 159
theorem zQn:FA 289 ⟨[0,1,232],Fs289,Fb289⟩:=fq3 1191 212
theorem zRl:FA 181 ⟨[24,22],Fs181,Fb181⟩:=fq2 734 134
theorem zQk:FA 297 ⟨[88,38],Fs297,Fb297⟩:=fq2 1217 216
theorem zRj:FA 184 ⟨[183,23],Fs184,Fb184⟩:=fq2 755 137
theorem zRg:FA 187 ⟨[183,23],Fs187,Fb187⟩:=fq2 776 140
theorem zSS:FA 129 ⟨[47,48],Fs129,Fb129⟩:=fq2 496 96
theorem zNe:FA 285 ⟨[24,22],Fs285,Fb285⟩:=fq2 1170 209
theorem zSR:FA 130 ⟨[88],Fs130,Fb130⟩:=fq1 501 97
theorem zNd:FA 296 ⟨[294],Fs296,Fb296⟩:=fq1 1210 215
theorem zRa:FA 199 ⟨[88,38],Fs199,Fb199⟩:=fq2 807 146
theorem zQg:FA 304 ⟨[88,38],Fs304,Fb304⟩:=fq2 1241 222
theorem zKh:FA 315 ⟨[88,38],Fs315,Fb315⟩:=fq2 1279 228
theorem fa_13:FA 13 ⟨[7,12],Fs13,Fb13⟩:=fq2 62 13
theorem fa_35:FA 35 ⟨[0],Fs35,Fb35⟩:=fq1 153 29
theorem fa_46:FA 46 ⟨[40],Fs46,Fb46⟩:=fq1 184 37
theorem fa_52:FA 52 ⟨[50],Fs52,Fb52⟩:=fq1 205 40
theorem fa_63:FA 63 ⟨[16,62],Fs63,Fb63⟩:=fq2 251 48
theorem fa_91:FA 91 ⟨[88],Fs91,Fb91⟩:=fq1 347 69
theorem zSX:FA 111 ⟨[88],Fs111,Fb111⟩:=fq1 465 91
theorem zSN:FA 138 ⟨[136],Fs138,Fb138⟩:=fq1 550 104
theorem zSI:FA 144 ⟨[136,5],Fs144,Fb144⟩:=fq2 579 109
theorem zSD:FA 152 ⟨[136],Fs152,Fb152⟩:=fq1 610 114
theorem zSA:FA 157 ⟨[134],Fs157,Fb157⟩:=fq1 631 117
theorem zRt:FA 165 ⟨[136,5],Fs165,Fb165⟩:=fq2 674 124
theorem zRV:FA 207 ⟨[136],Fs207,Fb207⟩:=fq1 849 152
theorem zRK:FA 231 ⟨[9],Fs231,Fb231⟩:=fq1 922 163
theorem zRB:FA 254 ⟨[252,229],Fs254,Fb254⟩:=fq2 1086 194
theorem zQu:FA 270 ⟨[0],Fs270,Fb270⟩:=fq1 1127 201
theorem zQm:FA 292 ⟨[136],Fs292,Fb292⟩:=fq1 1203 214
theorem fa_15:FA 15 ⟨[7],Fs15,Fb15⟩:=fq1 69 14
theorem fa_64:FA 64 ⟨[16,62],Fs64,Fb64⟩:=fq2 258 49
theorem zSb:FA 101 ⟨[88],Fs101,Fb101⟩:=fq1 380 74
theorem zRw:FA 162 ⟨[136],Fs162,Fb162⟩:=fq1 655 121
theorem zRF:FA 237 ⟨[250],Fs237,Fb237⟩:=fq1 1074 188
theorem fa_27:FA 27 ⟨[0,1],Fs27,Fb27⟩:=fq2 90 20
theorem fa_30:FA 30 ⟨[0,1],Fs30,Fb30⟩:=fq2 111 23
theorem fa_60:FA 60 ⟨[50],Fs60,Fb60⟩:=fq1 236 45
theorem fa_74:FA 74 ⟨[16,62],Fs74,Fb74⟩:=fq2 291 54
theorem zSK:FA 141 ⟨[0,1],Fs141,Fb141⟩:=fq2 567 107
theorem fa_83:FA 83 ⟨[69,70],Fs83,Fb83⟩:=fq2 319 58
theorem zRu:FA 164 ⟨[136,86],Fs164,Fb164⟩:=fq2 667 123
theorem zRU:FA 208 ⟨[0,1],Fs208,Fb208⟩:=fq2 856 153
theorem zQt:FA 276 ⟨[0],Fs276,Fb276⟩:=fq1 1144 204
theorem zRv:FA 163 ⟨[0,1],Fs163,Fb163⟩:=fq2 662 122
theorem zRn:FA 174 ⟨[0,1],Fs174,Fb174⟩:=fq2 716 130
theorem zRQ:FA 217 ⟨[0,1],Fs217,Fb217⟩:=fq2 880 157
theorem zQs:FA 278 ⟨[0],Fs278,Fb278⟩:=fq1 1151 205
theorem zRP:FA 221 ⟨[0,1,220],Fs221,Fb221⟩:=fq3 887 158
theorem zQr:FA 280 ⟨[0,1],Fs280,Fb280⟩:=fq2 1156 206
theorem zSZ:FA 106 ⟨[94],Fs106,Fb106⟩:=fq1 387 75
theorem zRL:FA 230 ⟨[0,1],Fs230,Fb230⟩:=fq2 915 162
theorem zSY:FA 110 ⟨[88],Fs110,Fb110⟩:=fq1 458 86
theorem zRI:FA 234 ⟨[183],Fs234,Fb234⟩:=fq1 950 167
theorem zSU:FA 122 ⟨[94],Fs122,Fb122⟩:=fq1 482 94
theorem zRi:FA 185 ⟨[183,23],Fs185,Fb185⟩:=fq2 762 138
theorem zRY:FA 203 ⟨[136,202],Fs203,Fb203⟩:=fq2 828 149
theorem zRf:FA 189 ⟨[183,7],Fs189,Fb189⟩:=fq2 783 141
theorem zQi:FA 300 ⟨[183],Fs300,Fb300⟩:=fq1 1236 221
theorem zRd:FA 195 ⟨[183,7],Fs195,Fb195⟩:=fq2 795 144
theorem zSQ:FA 132 ⟨[88],Fs132,Fb132⟩:=fq1 508 98
theorem zQj:FA 298 ⟨[88,38],Fs298,Fb298⟩:=fq2 1222 217
theorem zQe:FA 309 ⟨[88,38],Fs309,Fb309⟩:=fq2 1267 226
theorem zET (i:Int): ∀l,(zQL i l).Perm (i :: l)
 | []=>List.Perm.refl _
 | j :: r=>by
  show (zAA (leI i j) (i :: j :: r) (j :: zQL i r)).Perm _
  cases leI i j with
  | true=>exact List.Perm.refl _
  | false=>exact ((zET i r).cons j).trans (List.Perm.swap i j r)
theorem zEs: ∀l,(zHK l).Perm l
 | []=>List.Perm.refl _
 | i :: l=>(zET i (zHK l)).trans ((zEs l).cons i)
theorem zES (i:Int): ∀l,l.Pairwise (· ≤ ·)→(zQL i l).Pairwise (· ≤ ·)
 | [],_=>List.pairwise_singleton _ _
 | j :: r,h=>by
  obtain ⟨h1,h2⟩:=List.pairwise_cons.mp h
  show (zAA (leI i j) (i :: j :: r) (j :: zQL i r)).Pairwise _
  rw [zKO]
  by_cases hij:i≤j
  ·rw [decide_eq_true hij,zAJ]
   exact List.pairwise_cons.mpr ⟨fun a ha=>by
    rcases List.mem_cons.mp ha with rfl | ha
    ·exact hij
    ·exact Int.le_trans hij (h1 a ha),h⟩
  ·rw [decide_eq_false hij,zAF]
   refine List.pairwise_cons.mpr ⟨fun a ha=> ?_,zES i r h2⟩
   rcases List.mem_cons.mp ((zET i r).mem_iff.mp ha) with rfl | ha
   ·lia
   ·exact h1 a ha
theorem zDW: ∀l,(zHK l).Pairwise (· ≤ ·)
 | []=>List.Pairwise.nil
 | i :: l=>zES i _ (zDW l)
theorem zHa {P:Addr→Prop} {h:Heap} {l:List D}: ∀{vs:List Value} {is:List Int},zGg l=some is→zAK P h vs l→IntsAre vs is:=by
 induction l with
 | nil=>intro vs is e r; cases r; cases e; exact .nil
 | cons d l ih=>
  intro vs is e r
  cases r with
  | cons r rs=>
   obtain ⟨i,rfl,e⟩:=zBM (show zAO d (fun i=>bnd (zGg l) fun r=>some (i :: r)) none=some is from e)
   obtain ⟨r',e1,e2⟩:=zAB e
   cases e2
   obtain ⟨t,rfl⟩:=r.intInv
   exact .cons i t (ih e1 rs)
theorem zKX {P:Addr→Prop} {h:Heap} {vs:List Value} {is:List Int} (x:IntsAre vs is):zAK P h vs (zLL PyData.int is):=by
 induction x with
 | nil=>exact .nil
 | cons n t _ ih=>exact .cons (.int n t) ih
section
variable {prog:Program} {w:World} {A:Around} {E:Value→Shared→Prop} {s:Shared} {P:Addr→Prop}
theorem zJb {v:Value} {l:List D} {is:List Int} {Q:Value→Shared→Prop} (al: ∀x,P x→∃o,s.heap.get? x=some o) (h64:l.length < 64) (hi:zGg l=some is) (r:PkR w P s.heap v (.list l))
  (hQ: ∀v s',Keeps s s'→RdW P s'.heap v (.list (zLL PyData.int (zHK is)))→Q v s'):wpAny (model prog w) A (PySem.call (.builtin "sorted") [v]) Q E s:=by
 obtain ⟨c,vs,n,rfl,g,q⟩:=zBC r
 refine sorted_ints (vs:=vs.toList) (by simpa using zAL g) (zHa hi q) (by rw [q.length]; exact h64) fun out ns' h1 h2 h3=> ?_
 have e:ns'=zHK is:=List.Perm.eq_of_pairwise (fun V V V V a b=>Int.le_antisymm a b) h3 (zDW is) (h2.trans (zEs is).symm)
 subst e
 obtain ⟨ep,hat⟩:=sortedAll_at s.heap vs.toList out
 have K:Keeps s {s with heap:=sortedAll s.heap vs.toList out}:=⟨_,s.toks,rfl,fun a o e=>sortedAll_old e⟩
 refine hQ _ _ K (.list (vs:=out) (n:=ep) hat (fun hp=> ?_) (zKX h1))
 obtain ⟨o,ho⟩:=al _ hp
 exact absurd (Heap.lt_size ho) (Nat.not_lt.mpr (Nat.le_succ _))
end
section
open PySem.Calls
section
variable {prog:Program} {w:World} {A:Around} {E:Value→Shared→Prop} {s:Shared} {K:Type} [DecidableEq K] {knd:KeyKind prog w K} {d:Addr} {kvs:List (K×Value)} {ep:Nat}
theorem zHW {it:Addr} {i:Nat} {Q:Option Value→Shared→Prop} (hh:zAG A s.heap) (hit:s.heap.IsKeyIter it d i kvs.length ep) (hm:s.heap.DictAt knd d kvs ep) (hx:kvs[i]? =none)
  (hQ: ∀h',Heap.ExtBut it s.heap h'→Q none {s with heap:=h'}):wpAny (model prog w) A (pyNext (.ref it)) Q E s:=by
 obtain ⟨o,ho,hc,hd⟩:=id hit
 obtain ⟨od,es,hod,hcd,hdd,hk,hp,hn⟩:=id hm
 unfold pyNext
 refine wpAny_bind (wpAny_attempt (wpAny_callSpecial?_slot (name:=Str.ofString "__next__") hit.typeIs F.slot_dict_keyiterator_next
  (wpAny_call_entry F.slot_dict_keyiterator_next hit.typeIs F.entry_dict_keyiterator_next ?_ (F.args_dict_keyiterator_next_1 _))))
 refine wpAny_bind (wpAny_pure ?_)
 refine wpAny_bind ?_
 refine wpAny_bind ?_
 first | refine wpAny_bind (wpAny_typeNameOfWhole_keyiter hit.typeIs (wpAny_pure ?_)) | refine wpAny_bind (wpAny_typeNameOf_keyiter hit.typeIs (wpAny_pure ?_))
 refine wpAny_bind (wpAny_fieldsOf ho hd ?_)
 have hown:Builtin.Dict_items.ownsTuple "dict_keyiterator"=false:=by decide
 rw [if_neg fun h=>Bool.noConfusion (hown.symm.trans h)]
 show wpAny _ _ (if (Value.ref d==Value.none)=true then _ else _) _ _ s
 rw [if_neg (show ¬((Value.ref d==Value.none)=true) from Bool.false_ne_true)]
 refine wpAny_bind (wpAny_pure ?_)
 refine wpAny_bind (wpAny_dictEntries hod hdd ?_)
 have hsz:es.size=kvs.length:=by rw [←hp.length]; simp
 rw [if_neg (by rw [hsz]; simp)]
 refine wpAny_bind (wpAny_pure ?_)
 refine wpAny_bind (wpAny_dictEpoch hod hdd ?_)
 rw [if_neg (by simp)]
 refine wpAny_pure ?_
 have hge:es.size≤i:=by rw [hsz]; simpa using hx
 dsimp only
 rw [show (if (i:Int) < 0 then none else es[(i:Int).toNat]?)=none from (if_neg (by lia)).trans (Array.getElem?_eq_none hge)]
 refine wpAny_bind ?_
 first | refine wpAny_bind (wpAny_typeNameOfWhole_keyiter hit.typeIs (wpAny_pure ?_)) | refine wpAny_bind (wpAny_typeNameOf_keyiter hit.typeIs (wpAny_pure ?_))
 show wpAny _ _ (setField (.ref it) 0 .none >>= _) _ _ s
 refine wpAny_bind (wpAny_setField ho hd (by simp) ?_)
 refine zAS (hh.but rfl ho hd (by simp) (Heap.SameBut.update ..)) fun e h' hk hx=> ?_
 refine wpAny_bind (wpAny_isInstance (T:="StopIteration") (b:=true) hx isSubtype_stop ?_)
 exact wpAny_pure (hQ _ fun b o hb x=>hk b o ((Heap.SameBut.update ..).extBut b o hb x))
theorem zJS (I:Addr) (hne:d≠I):Walks prog w A I (I :: d :: zAQ A) [I] kvs.length (fun i v=>∃k x,kvs[i]? =some (k,x)∧knd.is k v=true) (fun i h=>h.IsKeyIter I d i kvs.length ep∧h.DictAt knd d kvs ep∧zAG A h) where
 sub:=fun b hb=>by simp at hb; simp [hb]
 frame:=fun V V V st hk=>⟨st.1.at fun o e=>hk I (by simp) o e,st.2.1.at' fun o e=>hk d (by simp) o e,st.2.2.at fun b hb o e=>hk b (by simp [hb]) o e⟩
 item:=fun i s Q E hi st hQ=>by
  obtain ⟨⟨k,x⟩,hx⟩: ∃p,kvs[i]? =some p:=⟨kvs[i],by simp [hi]⟩
  refine wpAny_pyNext_dict_item st.1 st.2.1 hx fun key h' hkey hit' hs'=> ?_
  obtain ⟨o,ho,_,hd⟩:=id st.1
  exact hQ key h' s.toks ⟨k,x,hx,hkey⟩ ⟨hit',st.2.1.extBut hs'.extBut hne,st.2.2.but rfl ho hd (by simp) hs'⟩ fun b o hb e=>hs'.extBut b o (fun h=>hb (by simp [h])) e
 done:=fun s Q E st hQ=>zHW st.2.2 st.1 st.2.1 (by simp) fun h' he'=>hQ h' s.toks fun b o hb e=>he' b o (fun h=>hb (by simp [h])) e
 self:=fun V V V V st hQ=>wpAny_pyIter_keyiter st.1 hQ
abbrev KeyP (knd:KeyKind prog w K) (kvs:List (K×Value)) (i:Nat) (v:Value):Prop:=∃k x,kvs[i]? =some (k,x)∧knd.is k v=true
theorem zMn {R:Result→Shared→Prop} (hh:zAG A s.heap) (lo:(d==sysModules)=false) (hm:s.heap.DictAt knd d kvs ep) (S:Addr) (hSd:S≠d) (hSh:S ∉ zAQ A) (res:Value) (c₀:Nat) (hS:s.heap.get? S=some {cls:= .type "list",data:= .seq #[] c₀})
  (hR: ∀h' tk acc' c',(∀b o,b≠S→s.heap.get? b=some o→h'.get? b=some o)→h'.get? S=some {cls:= .type "list",dict:=none,data:= .seq acc' c',slots:= #[]}→ItemsOf (KeyP knd kvs) acc' kvs.length→R (.ok (.ret res)) {s with heap:=h',toks:=tk}) (hn:kvs.length≤sizeLine):
  wpAny (model prog w) A.in1 (Builtin.List.listExtendWith (.ref S) (.ref d) res)
   (fun fin s'=>match fin with | .done f=>R (.ok f) s' | .again c'=>c'.quiet=true∧codeAny (model prog w) A c' R s') (fun e s'=>R (.error e) s') s:=by
 have hSI:S≠s.heap.objs.size:=Nat.ne_of_lt (Heap.lt_size hS)
 have hdI:d≠s.heap.objs.size:=Nat.ne_of_lt hm.lt_size
 have hSf:S ∉ s.heap.objs.size :: d :: zAQ A.in1:=by simp only [List.mem_cons,not_or]; exact ⟨hSI,hSd,hSh⟩
 have W:=zJS (prog:=prog) (w:=w) (A:=A.in1) (knd:=knd) (kvs:=kvs) (ep:=ep) s.heap.objs.size hdI
 have key: ∀(h:Heap) (c₁ tk:Nat),(h.IsKeyIter s.heap.objs.size d 0 kvs.length ep∧h.DictAt knd d kvs ep∧zAG A.in1 h)→(∀b o,b≠S→s.heap.get? b=some o→h.get? b=some o)→
   h.get? S=some {cls:= .type "list",data:= .seq #[] c₁}→codeAny (model prog w) A (.builtin "list.extend.loop" ⟨[.ref S, .ref s.heap.objs.size,res],[]⟩) R {s with heap:=h,toks:=tk}:=by
  intro h c₁ tk hst hk hS₁
  refine codeAny_extend_loopS W.toS hn S hSf res kvs.length 0 _ #[] c₁ rfl (Nat.zero_le _) hst hS₁ (ItemsOf.nil _) fun s' acc' c' hm hS' hacc=> ?_
  rw [Moved.eq_with hm]
  refine hR s'.heap s'.toks acc' c' (fun b o hb e=>hm.heap b o (fun hmem=> ?_) (hk b o hb e)) hS' hacc
  rcases List.mem_cons.mp hmem with e' | hmem
  ·exact hb e'
  ·exact absurd (Heap.lt_size e) (by rw [List.mem_singleton.mp hmem]; exact Nat.lt_irrefl _)
 unfold Builtin.List.listExtendWith
 refine wpAny_bind (wpAny_typeOf (T:="dict") hm.dictOf.typeIs ?_)
 have h1:Builtin.List.listSameRef (.ref S) (.ref d)=false:=by simp [Builtin.List.listSameRef,hSd]
 have h2:(Value.type "dict"==Value.type "list")=false:=by decide
 have h3:(Value.type "dict"==Value.type "tuple")=false:=by decide
 simp only [h1,h2,h3,Bool.or_false,Bool.false_eq_true,if_false]
 refine wpAny_bind (wpAny_pyIter_dict lo hm ?_)
 have hS₁:=Heap.get?_push_of_some {cls:= .type "dict_keyiterator",data:= .fields #[.ref d, .int 0 0, .int kvs.length 0, .int ep 0]} hS
 have st: ∀h',(∀b o,b≠S→(s.heap.push {cls:= .type "dict_keyiterator",data:= .fields #[.ref d, .int 0 0, .int kvs.length 0, .int ep 0]}).get? b=some o→h'.get? b=some o)→(h'.IsKeyIter s.heap.objs.size d 0 kvs.length ep∧h'.DictAt knd d kvs ep∧zAG A.in1 h'):=fun h' hk=>
  ⟨⟨_,hk _ _ (Ne.symm hSI) (Heap.get?_push_size _ rfl),rfl,rfl⟩,hm.at' fun o e=>hk d o (Ne.symm hSd) (Heap.get?_push_of_some _ e),(show zAG A.in1 s.heap from hh).at fun b hb o e=>hk b o (fun q=>hSh (q▸hb)) (Heap.get?_push_of_some _ e)⟩
 refine wpAny_bind (wpAny_holding (kdl_hint_dict (hm.push _).dictOf.typeIs ?_))
 refine wpAny_ite_split (fun V=> ?_) (fun V=>wpAny_pure ⟨plainId_quiet PySem.F.plain_extend_loop _,key _ c₀ _ (st _ fun V V V e=>e) (fun b o V e=>Heap.get?_push_of_some _ e) hS₁⟩)
 refine wpAny_bind (wpAny_rule ?_)
 refine wpAny_bind ?_
 show wpAny _ _ (updateSeq S (·.push .none) >>= fun V=>updateSeq S (·.pop)) _ _ _
 refine wpAny_bind (wpAny_updateSeq hS₁ rfl ?_)
 have hS₂:=Heap.get?_update_self (Obj.mapSeq (·.push Value.none)) hS₁ rfl
 refine wpAny_updateSeq (hz:=by seq_fits) hS₂ rfl ?_
 have hS₃:=Heap.get?_update_self (Obj.mapSeq (·.pop)) hS₂ rfl
 refine wpAny_pure ⟨plainId_quiet PySem.F.plain_extend_loop _,key _ _ _ (st _ fun b o hb e=> ?_) (fun b o hb e=> ?_) hS₃⟩
 ·exact (Heap.get?_update_other _ _ (Ne.symm hb)).trans ((Heap.get?_update_other _ _ (Ne.symm hb)).trans e)
 ·exact (Heap.get?_update_other _ _ (Ne.symm hb)).trans ((Heap.get?_update_other _ _ (Ne.symm hb)).trans (Heap.get?_push_of_some _ e))
end
end
section
open PySem.Calls
section
variable {prog:Program} {w:World} {A:Around} {E:Value→Shared→Prop} {s:Shared} {K:Type} [DecidableEq K] {knd:KeyKind prog w K} {d:Addr} {kvs:List (K×Value)} {ep:Nat}
theorem zGs {R:List Value→Shared→Prop} (hh:zAG A s.heap) (lo:(d==sysModules)=false) (hm:s.heap.DictAt knd d kvs ep) (hn:kvs.length≤sizeLine)
  (h: ∀(h':Heap) (tk:Nat) (acc:Array Value),(∀b o,s.heap.get? b=some o→h'.get? b=some o)→ItemsOf (KeyP knd kvs) acc kvs.length→R acc.toList {s with heap:=h',toks:=tk}):
  wpAny (model prog w) A (collect (.ref d)) R E s:=by
 unfold collect
 refine wpAny_bind (wpAny_runValue (codeAny_builtin entry_proto_collect' ?_))
 rw [Around.under_plainId PySem.F.plain_proto_collect _]
 show wpAny _ A.in1 (newList [] >>= fun l=>again (.builtin "list.__iadd__" ⟨[l, .ref d],[]⟩)) _ _ s
 refine wpAny_bind (wpAny_newObj_type ?_)
 refine wpAny_pure ⟨plainId_quiet PySem.F.plain_list_iadd _,codeAny_builtin entry_list_iadd' ?_⟩
 rw [Around.under_plainId PySem.F.plain_list_iadd _]
 have hS₁:(s.heap.push {cls:= .type "list",data:= .seq ([]:List Value).toArray}).get? s.heap.objs.size=some {cls:= .type "list",data:= .seq #[]}:=Heap.get?_push_size _ rfl
 show wpAny _ A.in1 (Builtin.List.listExtendWith (.ref s.heap.objs.size) (.ref d) (.ref s.heap.objs.size)) _ _ _
 have hne:s.heap.objs.size≠d:=Nat.ne_of_gt hm.lt_size
 have hnh:s.heap.objs.size ∉ zAQ A:=fun hb=>Nat.lt_irrefl _ (hh.live _ hb)
 have key:=zMn (A:=A) (s:={s with heap:=s.heap.push {cls:= .type "list",data:= .seq ([]:List Value).toArray}})
  (R:=fun (q:Result) (s':Shared)=>∃(h':Heap) (tk:Nat) (acc':Array Value) (c':Nat),q= .ok (.ret (.ref s.heap.objs.size))∧s'={s with heap:=h',toks:=tk}∧
   (∀b o,s.heap.get? b=some o→h'.get? b=some o)∧h'.get? s.heap.objs.size=some {cls:= .type "list",dict:=none,data:= .seq acc' c',slots:= #[]}∧ItemsOf (KeyP knd kvs) acc' kvs.length)
  (hh.keep fun V V e=>Heap.get?_push_of_some _ e) lo (hm.push _) s.heap.objs.size hne hnh (.ref s.heap.objs.size) 0 hS₁
  (fun h' tk acc' c' hk hS' hacc=>⟨h',tk,acc',c',rfl,rfl,fun b o e=>hk b o (Nat.ne_of_lt (Heap.lt_size e)) (Heap.get?_push_of_some _ e),hS',hacc⟩) hn
 refine wpAny_mono key (fun fin s' x=> ?_) fun e s' x=> ?_
 ·induction fin with
  | done f=>
   obtain ⟨h',tk,acc',c',e,rfl,hk,hS',hacc⟩:=x
   cases e
   show wpAny _ A (load s.heap.objs.size >>= _) _ _ _
   refine wpAny_bind (wpAny_load hS' ?_)
   exact wpAny_pure (h h' tk acc' hk hacc)
  | again c₁=>
   refine ⟨x.1,codeAny_mono x.2 fun q s₂ y=> ?_⟩
   obtain ⟨h',tk,acc',c',rfl,rfl,hk,hS',hacc⟩:=y
   show wpAny _ A (load s.heap.objs.size >>= _) _ _ _
   refine wpAny_bind (wpAny_load hS' ?_)
   exact wpAny_pure (h h' tk acc' hk hacc)
 ·obtain ⟨_,_,_,_,e',_⟩:=x
  cases e'
theorem zIc {a:Addr} {vs:List Value} {n:Nat} {P:Fin→Shared→Prop} (ho:s.heap.get? a=some (seqObj "list" vs.toArray n)) (h1:vs.length < 2)
  (h:P (.done (.ret .none)) {s with heap:=sortedHeap s.heap a vs vs.toArray}):wpAny (model prog w) A (Builtin.«list.sort» ⟨[.ref a],[]⟩) P E s:=by
 rw [list_sort_plain]
 have ha:a < s.heap.objs.size:=Heap.lt_size ho
 refine wpAny_bind (listItems_at ho rfl ?_)
 refine wpAny_bind (listUpdate_at ho rfl ?_)
 obtain ⟨e1,ho1⟩: ∃e1,(s.heap.update a (Obj.mapSeq fun V=> #[])).get? a=some (seqObj "list" #[] e1):=⟨_,get?_update_seq ho (fun V=> #[])⟩
 refine wpAny_bind (seqEpoch_at ho1 rfl ?_)
 refine wpAny_bind (wpAny_newTuple ?_)
 refine wpAny_bind (wpAny_newList ?_)
 refine wpAny_holding ?_
 have ho6:(((s.heap.update a (Obj.mapSeq fun V=> #[])).push (seqObj "tuple" vs.toArray 0)).push (seqObj "list" #[] 0)).get? a=some (seqObj "list" #[] e1):=by
  rw [Heap.get?_push_ne _ _ _ (by rw [size_push',Heap.size_update]; exact Nat.ne_of_lt (Nat.lt_succ_of_lt ha)),Heap.get?_push_ne _ _ _ (by rw [Heap.size_update]; exact Nat.ne_of_lt ha)]
  exact ho1
 show wpAny (model prog w) A _ P E {s with heap:=((s.heap.update a (Obj.mapSeq fun V=> #[])).push (seqObj "tuple" vs.toArray 0)).push (seqObj "list" #[] 0)}
 dsimp only
 have h2:vs.toArray.size < 2:=by simpa using h1
 rw [if_pos h2,if_pos h2]
 refine wpAny_bind (wpAny_pure ?_)
 rw [StateT.run_pure]
 refine wpAny_bind (wpAny_pure ?_)
 dsimp only
 refine wpAny_bind (seqEpoch_at ho6 rfl ?_)
 have hz:(arrOf (SortSt.mk' general' (vs.toArray.zip vs.toArray) #[] 7 none)).map (·.2)=vs.toArray:=by
  show (vs.toArray.zip vs.toArray).map (·.2)=vs.toArray
  have hv:vs=[]∨∃x,vs=[x]:=by
   cases vs with
   | nil=>exact .inl rfl
   | cons x r=>cases r with
    | nil=>exact .inr ⟨x,rfl⟩
    | cons _ _=>exact absurd h1 (by simp)
  rcases hv with rfl | ⟨x,rfl⟩ <;> simp
 rw [hz]
 refine wpAny_bind (listUpdate_at ho6 rfl ?_ (hsz2:=by rw [sizeLine_eq]; lia))
 simp only [bne_self_eq_false,Bool.false_eq_true,if_false]
 exact wpAny_pure h
theorem zEl {h:Heap} {a:Addr} {vs:List Value} {out:Array Value} {b:Addr} {o:Obj} (hb:b≠a) (e:h.get? b=some o):(sortedHeap h a vs out).get? b=some o:=by
 unfold sortedHeap
 rw [Heap.get?_update_other _ _ (Ne.symm hb)]
 exact Heap.get?_push_of_some _ (Heap.get?_push_of_some _ ((Heap.get?_update_other _ _ (Ne.symm hb)).trans e))
theorem zFT {h:Heap} {a:Addr} {vs:List Value} {out xs:Array Value} {n:Nat} (e:h.get? a=some (seqObj "list" xs n)): ∃n',(sortedHeap h a vs out).get? a=some (seqObj "list" out n'):=by
 unfold sortedHeap
 have h1:=get?_update_seq e (fun V=>(#[]:Array Value))
 exact ⟨_,get?_update_seq (Heap.get?_push_of_some _ (Heap.get?_push_of_some _ h1)) fun V=>out⟩
theorem zEE {Q:Value→Shared→Prop} (hh:zAG A s.heap) (lo:(d==sysModules)=false) (hm:s.heap.DictAt knd d kvs ep) (hn:kvs.length < 2)
  (h: ∀(a:Addr) (h':Heap) (tk:Nat) (vs:List Value) (n:Nat),(∀b o,s.heap.get? b=some o→h'.get? b=some o)→s.heap.get? a=none→h'.get? a=some (seqObj "list" vs.toArray n)→vs.length=kvs.length→(∀j v,vs[j]? =some v→KeyP knd kvs j v)→
   Q (.ref a) {s with heap:=h',toks:=tk}):wpAny (model prog w) A (PySem.call (.builtin "sorted") [.ref d]) Q E s:=by
 refine call_function_entry kind_sorted plain_sorted entry_sorted (args_sorted1 _) ?_
 unfold Builtin.«sorted»
 refine wpAny_bind (m:=checkCount "sorted" 1 1 _) (wpAny_pure ?_)
 refine wpAny_bind (zGs (A:=A.in1) (show zAG A.in1 s.heap from hh) lo hm (by rw [sizeLine_eq]; lia) fun h' tk acc hk hacc=> ?_)
 have hl:acc.toList.length=kvs.length:=by rw [Array.length_toList]; exact hacc.1
 refine wpAny_bind (wpAny_newList ?_ (by rw [hl,sizeLine_eq]; lia))
 have hoL:(h'.push (seqObj "list" acc.toList.toArray 0)).get? h'.objs.size=some (seqObj "list" acc.toList.toArray 0):=Heap.get?_push_size _ rfl
 refine wpAny_bind (wpAny_holding (wpAny_call_entry slot_list_sort ⟨_,hoL,rfl⟩ entry_list_sort (zIc (vs:=acc.toList) hoL (by rw [hl]; exact hn) ⟨_,rfl, ?_⟩) (args_list_sort _)))
 obtain ⟨n',hat⟩:=zFT (vs:=acc.toList) (out:=acc.toList.toArray) hoL
 have hnone:s.heap.get? h'.objs.size=none:=by
  cases e:s.heap.get? h'.objs.size with
  | none=>rfl
  | some o=>exact absurd (Heap.lt_size (hk _ _ e)) (Nat.lt_irrefl _)
 refine wpAny_pure ⟨_,rfl,h h'.objs.size _ tk acc.toList n' (fun b o e=>zEl (Nat.ne_of_lt (Heap.lt_size (hk _ _ e))) (Heap.get?_push_of_some _ (hk _ _ e))) hnone hat hl fun j v e=>hacc.2 j v (by rw [←Array.getElem?_toList]; exact e)⟩
end
section
variable {prog:Program} {w:World}
theorem zQH {k:Str} {v:Value} (h:(PySem.strKind prog w).is k v=true): ∃t,v= .str k t:=by
 have h:v.isStrOf k=true:=h
 induction v with
 | str x t=>
  have:x=k:=by simpa [Value.isStrOf] using h
  exact ⟨t,by rw [this]⟩
 | _=>simp [Value.isStrOf] at h
theorem zGN {A:Around} {E:Value→Shared→Prop} {s:Shared} {P:Addr→Prop} {c:Addr} {kvs:List (D×D)} {ss:List (Str×Value)} {r:D} {Q:Value→Shared→Prop} (hh:zAG A s.heap) (al: ∀x,P x→∃o,s.heap.get? x=some o) (lo:(c==sysModules)=false) (hm:s.heap.DictOf (PySem.strKind prog w) c ss)
  (hp:Paired (zLH P s.heap) ss kvs) (h:zLc (.dict kvs)=some r) (hQ: ∀v s',Keeps s s'→RdW P s'.heap v r→Q v s'):wpAny (model prog w) A (PySem.call (.builtin "sorted") [.ref c]) Q E s:=by
 have h:onL kvs (some (PyData.list [])) (fun p r=>onL r (onD none (fun V=>none) (fun V=>none) (fun s=>some (PyData.list [.str s])) (fun V=>none) (fun V=>none) (fun V=>none) p.1) fun V V=>none)=some r:=h
 obtain ⟨ep,hat⟩:=hm.dictAt
 have fin: ∀(a:Addr) (h':Heap) (tk:Nat) (vs:List Value) (n:Nat) (ds:List D),(∀b o,s.heap.get? b=some o→h'.get? b=some o)→s.heap.get? a=none→h'.get? a=some (seqObj "list" vs.toArray n)→zAK P h' vs ds→r= .list ds→Q (.ref a) {s with heap:=h',toks:=tk}:=fun a h' tk vs n ds hk hn hg rr e=>by
  subst e
  refine hQ _ _ ⟨h',tk,rfl,hk⟩ (.list (vs:=vs.toArray) (n:=n) hg (fun hp=> ?_) (by simpa using rr))
  obtain ⟨o,ho⟩:=al _ hp
  rw [hn] at ho; cases ho
 cases hp with
 | nil=>
  cases h
  refine zEE hh lo hat (Nat.succ_pos _) fun a h' tk vs n hk hn hg hl V=>fin a h' tk vs n [] hk hn hg ?_ rfl
  induction vs using List.casesOn with
  | nil=>exact .nil
  | cons _ _=>cases hl
 | @cons y kv l m f fm=>
  cases fm with
  | cons _ _=>cases h
  | nil=>
   have h:onD none (fun V=>none) (fun V=>none) (fun s=>some (PyData.list [.str s])) (fun V=>none) (fun V=>none) (fun V=>none) kv.1=some r:=h
   rw [f.1] at h
   cases h
   refine zEE hh lo hat (Nat.lt_succ_self _) fun a h' tk vs n hk hn hg hl hv=>fin a h' tk vs n [.str y.1] hk hn hg ?_ rfl
   obtain ⟨v,r,rfl,e⟩:=cl hl
   obtain rfl:=cl0 e
   obtain ⟨k,x,e,hx⟩:=hv 0 v rfl
   have e:some y=some (k,x):=e
   cases e
   obtain ⟨t,rfl⟩:=zQH hx
   exact .cons (.str k t f.2.1) .nil
open Classical in
theorem zAj:zFN prog w:=by
 intro A E s P v d r Q hh al h ra hQ
 induction d using PyData.casesOn with
 | list l=>
  obtain ⟨h1,h2⟩:=zAD (show zAA (Nat.blt (len l) 64) (bnd (zGg l) fun is=>some (.list (zLL PyData.int (zHK is)))) none=some r from h)
  obtain ⟨is,h3,h4⟩:=zAB h2
  cases h4
  have h1:l.length < 64:=by have:=Nat.le_of_ble_eq_true h1; rw [zBb] at this; lia
  exact zJb al h1 h3 ra hQ
 | dict kvs=>
  obtain ⟨c,rfl,lo,q⟩:=zDM ra
  rcases q with ⟨ss,h1,h2⟩ | ⟨xs,h1,h2⟩
  ·exact zGN hh al lo (h1 prog) h2 h hQ
  ·cases h2 with
   | nil=>
    obtain ⟨o,es,ep,ho,hc,hd,he,_,_⟩:=h1 prog
    have he:es.toList=[]:=he
    have he':es= #[]:=by simpa using he
    refine zGN (ss:=[]) hh al lo ⟨o,es,ep,ho,hc,hd,fun i hi=> ?_,by rw [he]; exact .nil,List.nodup_nil⟩ .nil h hQ
    subst he'
    simp at hi
   | @cons y kv l m f fm=>
    have h:onL m (onD none (fun V=>none) (fun V=>none) (fun s=>some (PyData.list [.str s])) (fun V=>none) (fun V=>none) (fun V=>none) kv.1) (fun V V=>none)=some r:=h
    induction m using List.casesOn with
    | cons _ _=>cases h
    | nil=>
     have h:onD none (fun V=>none) (fun V=>none) (fun s=>some (PyData.list [.str s])) (fun V=>none) (fun V=>none) (fun V=>none) kv.1=some r:=h
     rw [f.1] at h
     obtain ⟨lx,e,_⟩:=zBQ f.2.2.1
     rw [e] at h; cases h
 | _=>cases h
end
end
noncomputable def zNZ (o:Obj) (list:Bool):Bool:=(match o.cls with | .type n=>decide (n=if list then "list" else "tuple") | _=>false)&&o.dict.isNone&&o.slots.size==0
noncomputable def kS (v:Value):Option Str:=match v with | .str x _=>some x | _=>none
noncomputable def kI (v:Value):Option Int:=match v with | .int i _=>some i | _=>none
noncomputable def seqD (d:Data):Option (List Value):=match d with | .seq vs _=>some vs.toList | _=>none
theorem kS_of {v:Value} {x:Str} (h:kS v=some x): ∃t,v= .str x t:=by
 induction v with
 | str y t=>exact ⟨t,by rw [Option.some.inj h]⟩
 | _=>cases h
theorem kI_of {v:Value} {i:Int} (h:kI v=some i): ∃t,v= .int i t:=by
 induction v with
 | int y t=>exact ⟨t,by rw [Option.some.inj h]⟩
 | _=>cases h
theorem zOE {d:Data} {l:List Value} (h:seqD d=some l): ∃vs n,d= .seq vs n∧l=vs.toList:=by
 induction d using Data.casesOn with
 | seq vs n=>exact ⟨vs,n,rfl,(Option.some.inj h).symm⟩
 | _=>cases h
noncomputable def mapO (f:Value→Option D) (l:List Value):Option (List D):=List.rec (motive:=fun V=>Option (List D)) (some []) (fun v V ih=>bnd (f v) fun d=>bnd ih fun ds=>some (d :: ds)) l
noncomputable def rdV (h:Heap) (n:Nat):Value→Option D:=Nat.rec (motive:=fun V=>Value→Option D) (fun V=>none)
 (fun V ih v=>match v with
  | .int i _=>some (.int i)
  | .str x _=>zAA (PyData.strOk x) (some (.str x)) none
  | .ref a=>bnd (h.get? a) fun o=>bnd (seqD o.data) fun vs=>bnd (mapO ih vs) fun ds=>zAA (zNZ o true) (some (.list ds)) (zAA (zNZ o false) (some (.tuple ds)) none)
  | _=>none) n
theorem zKV {o:Obj} {b:Bool} (x:zNZ o b=true) {vs:Array Value} {n:Nat} (hd:o.data= .seq vs n):o={cls:= .type (if b then "list" else "tuple"),dict:=none,data:= .seq vs n,slots:= #[]}:=by
 obtain ⟨c,d,dt,sl⟩:=o
 unfold zNZ at x
 simp only [Bool.and_eq_true] at x
 obtain ⟨⟨x1,x2⟩,x3⟩:=x
 have hd:dt= .seq vs n:=hd
 have e2:d=none:=by induction d with | none=>rfl | some _=>cases x2
 have e3:sl= #[]:=by
  have:sl.size=0:=by simpa using x3
  exact Array.eq_empty_of_size_eq_zero this
 subst hd e2 e3
 induction c with
 | type m=>
  have x1:m=_:=of_decide_eq_true x1
  subst x1; rfl
 | _=>cases x1
theorem zOT {h:Heap} {f:Value→Option D} (hf: ∀{v d},f v=some d→RdW (fun V=>False) h v d) {l:List Value}: ∀{ds:List D},mapO f l=some ds→zAK (fun V=>False) h l ds:=by
 induction l with
 | nil=>intro ds e; rw [←Option.some.inj (show some []=some ds from e)]; exact .nil
 | cons v l ih=>
  intro ds e
  obtain ⟨d,h1,e⟩:=zAB (show bnd (f v) (fun d=>bnd (mapO f l) fun ds=>some (d :: ds))=some ds from e)
  obtain ⟨dr,h2,e⟩:=zAB e
  rw [←Option.some.inj e]
  exact .cons (hf h1) (ih h2)
theorem zPk {h:Heap} {n:Nat}: ∀{v:Value} {d:D},rdV h n v=some d→RdW (fun V=>False) h v d:=by
 induction n with
 | zero=>intro v d e; cases e
 | succ n ih=>
  intro v d e
  induction v with
  | int i t=>rw [←Option.some.inj (show some (PyData.int i)=some d from e)]; exact .int i t
  | str x t=>
   obtain ⟨h1,e⟩:=zAD (show zAA (PyData.strOk x) (some (PyData.str x)) none=some d from e)
   rw [←Option.some.inj e]; exact .str x t h1
  | ref a=>
   obtain ⟨o,h1,e⟩:=zAB (show bnd (h.get? a) (fun o=>bnd (seqD o.data) fun vs=>bnd (mapO (rdV h n) vs) fun ds=>zAA (zNZ o true) (some (.list ds)) (zAA (zNZ o false) (some (.tuple ds)) none))=some d from e)
   obtain ⟨l,h2,e⟩:=zAB e
   obtain ⟨vs,m,h4,rfl⟩:=zOE h2
   obtain ⟨ds,h3,e⟩:=zAB e
   have r:=zOT ih h3
   cases q:zNZ o true with
   | true=>
    rw [q] at e
    rw [←Option.some.inj (show some (PyData.list ds)=some d from e)]
    rw [zKV q h4] at h1
    exact .list h1 id r
   | false=>
    rw [q] at e
    obtain ⟨q,e⟩:=zAD (show zAA (zNZ o false) (some (PyData.tuple ds)) none=some d from e)
    rw [←Option.some.inj e]
    rw [zKV q h4] at h1
    exact .tuple h1 id r
  | _=>cases e
abbrev conB (h:Heap) (x:Nat) (d:D):Prop:=bnd (h.nsMap mainGlobals (nm x)) (rdV h 9)=some d
theorem zFs {w:World} {h:Heap} {x:Nat} {d:D} (b:conB h x d): ∃v,h.nsMap mainGlobals (nm x)=some v∧PkR w (fun V=>False) h v d:=by
 obtain ⟨v,hv,b⟩:=zAB b
 exact ⟨v,hv, .inl (zPk b)⟩
noncomputable def zIS (h:Heap) (a:Addr):List DictEntry:=match h.get? a with | some o=>(match o.data with | .dict es _=>es.toList | _=>[]) | none=>[]
noncomputable def isDc (h:Heap) (a:Addr):Bool:=match h.get? a with | some o=>(match o.cls with | .type n=>decide (n="dict") | _=>false)&&o.dict.isNone&&o.slots.size==0&&(match o.data with | .dict _ _=>true | _=>false) | none=>false
noncomputable def entV (l:List DictEntry):Option (List (Str×Int)):=List.rec (motive:=fun V=>Option (List (Str×Int))) (some []) (fun e V ih=>bnd (kS e.key) fun x=>bnd (kI e.val) fun i=>bnd ih fun r=>zAA (PyData.strOk x) (some ((x,i) :: r)) none) l
set_option tactic.hygienic true in
theorem zOe {h:Heap} {a:Addr} (x:isDc h a=true): ∃o es ep,h.get? a=some o∧o.ExactDict∧o.data= .dict es ep∧es.toList=zIS h a:=by
 unfold isDc at x
 unfold zIS
 split at x
 ·rename_i o ho
  simp only [Bool.and_eq_true] at x
  obtain ⟨⟨⟨x1,x2⟩,x3⟩,x4⟩:=x
  split at x4
  ·rename_i es ep hd
   refine ⟨o,es,ep,ho,⟨?_, ?_, ?_⟩,hd,rfl⟩
   ·split at x1
    ·rename_i n hn; rw [hn,of_decide_eq_true x1]
    ·cases x1
   ·cases e:o.dict with | none=>rfl | some _=>rw [e] at x2; cases x2
   ·have:o.slots.size=0:=by simpa using x3
    exact Array.eq_empty_of_size_eq_zero this
  ·cases x4
 ·cases x
theorem zNg {w:World} {prog:Program} {h:Heap} {es:List DictEntry}: ∀{ps:List (Str×Int)},entV es=some ps→es.map (·.hash)=ps.map (fun p=>hashStr w p.1)→
  (∀e∈es,∃k,(PySem.strKind prog w).is k e.key=true∧e.hash=(PySem.strKind prog w).hash k)∧∃ss:List (Str×Value),(∀q,Pairs (PySem.strKind q w) es ss)∧ss.map (·.1)=ps.map (·.1)∧
   Paired (fun (x:Str×Value) (kv:D×D)=>kv.1= .str x.1∧PyData.strOk x.1=true∧RdW (fun V=>False) h x.2 kv.2) ss (ps.map fun p=>(PyData.str p.1,PyData.int p.2)):=by
 induction es with
 | nil=>intro ps e _; rw [←Option.some.inj (show some []=some ps from e)]; exact ⟨fun V h=>(by cases h),[],fun V=> .nil,rfl, .nil⟩
 | cons e es ih=>
  intro ps x hh
  obtain ⟨y,h1,x⟩:=zAB (show bnd (kS e.key) (fun x=>bnd (kI e.val) fun i=>bnd (entV es) fun r=>zAA (PyData.strOk x) (some ((x,i) :: r)) none)=some ps from x)
  obtain ⟨i,h2,x⟩:=zAB x
  obtain ⟨r,h3,x⟩:=zAB x
  obtain ⟨h4,x⟩:=zAD x
  obtain rfl:=Option.some.inj x
  obtain ⟨e1,e2⟩:=List.cons.inj (show e.hash :: es.map (·.hash)=hashStr w y :: r.map (fun p=>hashStr w p.1) from hh)
  obtain ⟨i1,ss,i2,i3,i4⟩:=ih h3 e2
  obtain ⟨t,hk⟩:=kS_of h1
  obtain ⟨u,hv⟩:=kI_of h2
  have hs: ∀q,(PySem.strKind q w).is y e.key=true:=fun q=>by rw [hk]; simp [PySem.strKind,Value.isStrOf]
  refine ⟨fun e' he=> ?_,(y,e.val) :: ss,fun q=> .cons (hs q) rfl (i2 q),congrArg (y :: ·) i3, .cons ⟨rfl,h4,by rw [hv]; exact .int _ _⟩ i4⟩
  rcases List.mem_cons.mp he with rfl | he
  ·exact ⟨y,hs prog,e1⟩
  ·exact i1 e' he
theorem zOt {w:World} {h:Heap} {a:Addr} {ps:List (Str×Int)} (h0:(a==sysModules)=false) (h1:isDc h a=true) (h2:entV (zIS h a)=some ps) (h3:(zIS h a).map (·.hash)=ps.map (fun p=>hashStr w p.1)) (h4:(ps.map (·.1)).Nodup):
  zAc w (fun V=>False) h a (ps.map fun p=>(PyData.str p.1,PyData.int p.2)):=by
 obtain ⟨o,es,ep,ho,hc,hd,he⟩:=zOe h1
 rw [←he] at h2 h3
 obtain ⟨_,ss,i2,i3,i4⟩:=zNg (w:=w) (prog:=default) (h:=h) h2 h3
 refine ⟨h0, .inl ⟨ss,fun prog=>⟨o,es,ep,ho,hc,hd,fun e hm=> ?_,i2 prog,by rw [i3]; exact h4⟩,i4⟩⟩
 obtain ⟨i1,_⟩:=zNg (w:=w) (prog:=prog) (h:=h) h2 h3
 exact i1 e (Array.mem_toList_iff.mpr hm)
noncomputable abbrev mgP (P:Params):Str→Option Value:=(H1 P).nsMap mainGlobals
noncomputable abbrev gaP:Addr×Addr:=(mainGlobals,builtinsNs)
noncomputable def rkL:List (Str×Int):=[("sym",0),("call",1),("sum",2),("prod",3),("num",4),("pow",5),("eq",6),("list",7)]
theorem rk_at (P:Params):mgP P (nm 75)=some (.ref 244):=by kernel_rfl
theorem zOH (w:World):zAc w (fun V=>False) (H1 w.params) 244 (rkL.map fun p=>(PyData.str p.1,PyData.int p.2)):=
 zOt (by decide) (by kernel_rfl) (by kernel_rfl) (by kernel_rfl) (by decide +kernel)
theorem zSf (w:World): ∀p∈gcT.items,∃v,mgP w.params (nm p.1)=some v∧PkR w (fun V=>False) (H1 w.params) v p.2:=by
 have rk: ∃v,mgP w.params (nm 75)=some v∧PkR w (fun V=>False) (H1 w.params) v (.dict [(.str "sym", .int 0),(.str "call", .int 1),(.str "sum", .int 2),(.str "prod", .int 3),(.str "num", .int 4),(.str "pow", .int 5),(.str "eq", .int 6),(.str "list", .int 7)]):=⟨_,rk_at _, .inr ⟨244,rfl,zOH w⟩⟩
 show ∀p∈(_ :: _:List (Nat×D)),_
 refine List.forall_mem_cons.mpr ⟨zFs (by kernel_rfl),List.forall_mem_cons.mpr ⟨zFs (by kernel_rfl),List.forall_mem_cons.mpr ⟨rk, ?_⟩⟩⟩
 repeat refine List.forall_mem_cons.mpr ⟨zFs (by kernel_rfl), ?_⟩
 exact fun V h=>by cases h
theorem zSj (P:Params): ∀b:B,mgP P b.name=none∧(H1 P).nsMap builtinsNs b.name=some b.val:=by
 intro b
 cases b <;> exact ⟨by kernel_rfl,by kernel_rfl⟩
theorem zFe (P:Params):((H1 P).isNs mainGlobals&&(H1 P).isNs builtinsNs&&(H1 P).isNs cStatics&&((H1 P).nsMap cStatics "sys.recursionlimit").isNone&&((H1 P).get? sysModules).isSome)=true:=by kernel_rfl
theorem wd_ok (w:World):Wd w (H1 w.params) gaP (mgP w.params) gc:=by
 have h:=zFe w.params
 simp only [Bool.and_eq_true] at h
 obtain ⟨⟨⟨⟨h1,h2⟩,h3⟩,h4⟩,h5⟩:=h
 refine ⟨.of_isNs h1,⟨_, .of_isNs h2,zSj w.params⟩,fun x d hx=> ?_,⟨_, .of_isNs h3, ?_⟩,Option.isSome_iff_exists.mp h5⟩
 ·obtain ⟨p,e1,e2⟩:=zAB (show bnd (gcT.at x) (fun p=>zAA (Nat.beq p.1 x) (some p.2) none)=some d from hx)
  obtain ⟨e4,e3⟩:=zAD e2
  cases e3
  have e4:=Nat.eq_of_beq_eq_true e4
  have:=zSf w p (Tr.at_mem e1)
  rwa [e4] at this
 ·simpa using h4
section
noncomputable def GL (P:Params):Heap:=(H1 P).update 1303 fun o=>{o with data:= .freed}
noncomputable abbrev zJK:Obj:={cls:= .none,data:= .fields #[]}
theorem zNF (P:Params):(H1 P).get? 1303=some zJK:=by kernel_rfl
theorem zIN (P:Params) {b:Addr} (h:b≠1303):(GL P).get? b=(H1 P).get? b:=Heap.get?_update_other _ _ (Ne.symm h)
theorem zJU (h:Heap) (a:Addr):(h.update a fun o=>{o with data:= .freed}).get? a=none:=by
 induction h with
 | mk objs l=>
  simp only [Heap.update,Heap.get?,Array.getElem?_modify,if_true]
  cases objs[a]? <;> rfl
theorem zKb (P:Params):(GL P).get? 1303=none:=zJU _ _
variable {P:Params}
theorem zFh {b:Addr} {o:Obj} (e:(H1 P).get? b=some o) (h:o≠zJK):(GL P).get? b=some o:=
 (zIN P fun q=>h (by rw [q,zNF] at e; exact (Option.some.inj e).symm)).trans e
theorem zQP {b:Addr} {o:Obj} (e:(GL P).get? b=some o):(H1 P).get? b=some o:=
 (zIN P fun q=>by rw [q,zKb] at e; cases e).symm.trans e
theorem Ns.gl {a:Addr} {m:Str→Option Value} (x:(H1 P).Ns a m):(GL P).Ns a m:=by
 obtain ⟨o,es,ep,ho,hd,r⟩:=x
 exact ⟨o,es,ep,zFh ho (fun q=>(by rw [q] at hd; cases hd)),hd,r⟩
theorem CodeRec.gl {c:Value} {q:Str} (x:(H1 P).CodeRec c q):(GL P).CodeRec c q:=by
 obtain ⟨c,oc,vs,t,e,hoc,hd,hv⟩:=x
 exact ⟨c,oc,vs,t,e,zFh hoc (fun q=>(by rw [q] at hd; cases hd; cases hv)),hd,hv⟩
theorem zHC.gl {mg:Str→Option Value} {ga:Addr×Addr} {f:Nat} {fn:Fn} (x:zHC (H1 P) mg ga f fn):zHC (GL P) mg ga f fn:=by
 obtain ⟨a,o,fd,h1,h2,h3,h4,h5,h6,h7,h8,h9,h10⟩:=x
 exact ⟨a,o,fd,h1,zFh h2 (fun q=>(by rw [q] at h3; cases h3)),h3,h4,h5,h6,h7,h8,CodeRec.gl h9,h10⟩
theorem RdW.seq {W:Addr→Prop} {h h':Heap} (hk: ∀a o,(∃vs n,o.data= .seq vs n)→h.get? a=some o→h'.get? a=some o) {v:Value} {d:D} (r:RdW W h v d):RdW W h' v d:=
 (zJs fun a o s n e=>⟨hk a o s e,n⟩).1 r
theorem zAK.seq {W:Addr→Prop} {h h':Heap} (hk: ∀a o,(∃vs n,o.data= .seq vs n)→h.get? a=some o→h'.get? a=some o) {vs:List Value} {ds:List D} (r:zAK W h vs ds):zAK W h' vs ds:=
 (zJs fun a o s n e=>⟨hk a o s e,n⟩).2 r
theorem zFC (a:Addr) (o:Obj) (h: ∃vs n,o.data= .seq vs n) (e:(H1 P).get? a=some o):(GL P).get? a=some o:=zFh e fun q=>by obtain ⟨vs,n,h⟩:=h; rw [q] at h; cases h
theorem zOu {w:World} {a:Addr} {kvs:List (D×D)} (x:zAc w (fun V=>False) (H1 P) a kvs):zAc w (fun V=>False) (GL P) a kvs:=by
 have ha: ∀o,(H1 P).get? a=some o→(GL P).get? a=some o:=fun o e=>by
  obtain ⟨o',es,ep,ho,_,hd,_⟩:=x.at
  rw [ho] at e; cases e
  exact zFh ho fun q=>by rw [q] at hd; cases hd
 refine ⟨x.1,x.2.imp (fun ⟨ss,h1,h2⟩=>⟨ss,fun p=>Heap.DictOf.at (h1 p) ha,zLJ h2 fun _ _ ⟨a,b,c⟩=>⟨a,b,c.seq zFC⟩⟩) fun ⟨xs,h1,h2⟩=> ?_⟩
 have h3:=zLJ h2 fun (x:D×Addr×Value) (kv:D×D) (y:kv.1=x.1∧RdW (fun V=>False) (H1 P) (.ref x.2.1) x.1∧zAe x.1=true∧RdW (fun V=>False) (H1 P) x.2.2 kv.2)=>
  (⟨y.1,y.2.1.seq zFC,y.2.2.1,y.2.2.2.seq zFC⟩:kv.1=x.1∧RdW (fun V=>False) (GL P) (.ref x.2.1) x.1∧zAe x.1=true∧RdW (fun V=>False) (GL P) x.2.2 kv.2)
 refine ⟨xs,fun p=> ?_,h3⟩
 obtain ⟨o,es,ep,ho,hc,hd,he,hi,hn⟩:=h1 p
 refine ⟨o,es,ep,ha _ ho,hc,hd,he,fun x hx=> ?_,hn⟩
 obtain ⟨kv,_,_,r,kt,_⟩:=pMem h3 hx
 exact ⟨r.toF,kt⟩
theorem zPn {w:World} {v:Value} {d:D} (x:PkR w (fun V=>False) (H1 P) v d):PkR w (fun V=>False) (GL P) v d:=by
 rcases x with x | x
 ·exact .inl (x.seq zFC)
 ·right
  induction d using PyData.casesOn with
  | list xs=>obtain ⟨a,vs,n,e,g,r⟩:=x; exact ⟨a,vs,n,e,zFC _ _ ⟨_,_,rfl⟩ g,r.seq zFC⟩
  | dict kvs=>obtain ⟨a,e,r⟩:=x; exact ⟨a,e,zOu r⟩
  | _=>exact x
theorem zBO (w:World):Wd w (GL w.params) gaP (mgP w.params) gc:=by
 have W:=wd_ok w
 obtain ⟨mb,hb,hv⟩:=W.blt
 obtain ⟨mc,n1,n2⟩:=W.nolimit
 refine ⟨Ns.gl W.ns,⟨mb,Ns.gl hb,hv⟩,fun x d hx=> ?_,⟨mc,Ns.gl n1,n2⟩, ?_⟩
 ·obtain ⟨v,h1,h2⟩:=W.con x d hx
  exact ⟨v,h1,zPn h2⟩
 ·obtain ⟨o,h⟩:=W.sys
  exact ⟨o,(zIN _ (by decide)).trans h⟩
end
def good (p:Nat×Fn):Bool:=zAA (FnS p.2) (zAA (Sk p.2.body p.2.sc) (!Nat.beq p.1 270) false) false
abbrev FGood (w:World) (p:Nat×Fn):Prop:=zNk (GL w.params) (mgP w.params) gaP p
abbrev FGs (l:List (Nat×Fn)):Prop:=∀w,∀p∈l,FGood w p
theorem fg {p:Nat×Fn} {l:List (Nat×Fn)} (h:FA p.1 p.2) (r:FGs l) (g:good p=true:=by decide +kernel):FGs (p :: l):=fun w=>List.forall_mem_cons.mpr ⟨by
 obtain ⟨g1,g2⟩:=zAN g
 obtain ⟨g2,g3⟩:=zAN g2
 exact ⟨(h w.params).gl,g1,g2,fun e=>by rw [e] at g3; cases g3⟩,r w⟩
theorem fg0:FGs []:=fun V V h=>by cases h
theorem fgx {l:List (Nat×Fn)} (r:FGs l):FGs ((270,⟨[0],Fs270,Fb270⟩) :: l):=fun w=>List.forall_mem_cons.mpr ⟨⟨(zQu _).gl,by decide +kernel,by decide +kernel,fun V=>⟨_,_,_,_,_,_,rfl⟩⟩,r w⟩
theorem tb0:FGs fnT0.items:=fg fa_3<|fg fa_8<|fg fa_13<|fg fa_31<|fg fa_34<|fg fa_35<|fg fa_39<|fg fa_44<|fg fa_46<|fg fa_49<|fg fa_51<|fg fa_52<|fg fa_53<|fg fa_56<|fg fa_63<|fg fa_67<|fg fa_87<|fg fa_91<|fg fa_95<|fg fa_99<|fg zSX<|fg zSP<|fg zSO<|fg zSN<|fg zSL<|fg zSJ<|fg zSI<|fg zSH<|fg zSF<|fg zSD<|fg zSC<|fg zSB<|fg zSA<|fg zRz<|fg zRy<|fg zRt<|fg zRk<|fg zRe<|fg zRV<|fg zRR<|fg zRN<|fg zRK<|fg zRH<|fg zRC<|fg zRB<|fg zQw<|fg zQv<|fgx<|fg zNf<|fg zQp<|fg zQm<|fg zQd fg0
theorem tb1:FGs fnT1.items:=fg fa_11<|fg fa_15<|fg fa_26<|fg fa_59<|fg fa_64<|fg fa_66<|fg fa_92<|fg zSb<|fg zSW<|fg zSM<|fg zRw<|fg zRc<|fg zRJ<|fg zRF<|fg zQy fg0
theorem tb2:FGs fnT2.items:=fg fa_21<|fg fa_27<|fg fa_28<|fg fa_29<|fg fa_30<|fg fa_32<|fg fa_37<|fg fa_60<|fg fa_71<|fg fa_73<|fg fa_74<|fg fa_76<|fg fa_79<|fg zSK<|fg zSG fg0
theorem tb3:FGs fnT3.items:=fg fa_61<|fg fa_83<|fg zSE<|fg zRx<|fg zRu<|fg zRs<|fg zRZ<|fg zRU<|fg zRT<|fg zRD<|fg zQt<|fg zQo fg0
theorem tb4:FGs fnT4.items:=fg fa_85<|fg zRv<|fg zRr<|fg zRp<|fg zRn<|fg zRm<|fg zRS<|fg zRQ<|fg zRG<|fg zRA<|fg zQs fg0
theorem tb5:FGs fnT5.items:=fg fa_97<|fg zRq<|fg zRP<|fg zRM<|fg zRE<|fg zQr<|fg zQq fg0
theorem tb6:FGs fnT6.items:=fg zSa<|fg zSZ<|fg zRo<|fg zRO<|fg zRL<|fg zQz<|fg zQn fg0
theorem tb7:FGs fnT7.items:=fg zSY<|fg zSV<|fg zRl<|fg zRI<|fg zQl<|fg zQk fg0
theorem tb8:FGs fnT8.items:=fg zSU<|fg zST<|fg zRj<|fg zRi<|fg zRh<|fg zRg<|fg zRY<|fg zQx fg0
theorem tb9:FGs fnT9.items:=fg zSS<|fg zRf<|fg zRX<|fg zNe<|fg zQi<|fg zQf fg0
theorem tb10:FGs zQW.items:=fg zSR<|fg zRd<|fg zRW<|fg zNd fg0
theorem tb11:FGs zQV.items:=fg zSQ<|fg zRb fg0
theorem tb12:FGs zQU.items:=fg zRa<|fg zQj fg0
theorem tb13:FGs zQT.items:=fg zQh<|fg zQg<|fg zQe fg0
theorem tb14:FGs zQS.items:=fg zNc fg0
theorem tb15:FGs zQR.items:=fg zKh fg0
abbrev COk (prog:Program) (w:World) (c:Nat→List D→Option D) (rc:Nat):Prop:=zAW prog w (GL w.params) (mgP w.params) c rc
abbrev zFx (l:List (Nat→List D→Option D)) (n:Nat):Prop:=∀prog w,∀c∈l,COk prog w c (n + 1)
theorem zGJ (prog:Program) (w:World) (rc:Nat):zEh prog w (GL w.params) (mgP w.params) (rc + 1):=zNo (zBO w) (zNf _).gl
theorem zSe:zFx [] 0:=fun V V V h=>by cases h
theorem zAl {l:List (Nat→List D→Option D)} {t:Tr (Nat×Fn)} {n:Nat} (h:zFx l n) (g:FGs t.items) (k:Nat):zFx (l++[lev l t k]) (n + k):=fun prog w c hc=>by
 rcases List.mem_append.mp hc with hc | hc
 ·exact zAn (h prog w c hc) (by lia)
 ·rw [List.mem_singleton.mp hc]
  have:=zPz (zBO w) zAj (zGJ prog w) n (h prog w) (g w) k
  rwa [show n + 1 + k=n + k + 1 by lia] at this
theorem cs0:zFx [C0] 40:=zAl zSe tb0 40
theorem cs1:zFx [C0,C1] 80:=zAl cs0 tb1 40
theorem cs2:zFx [C0,C1,C2] 120:=zAl cs1 tb2 40
theorem cs3:zFx [C0,C1,C2,C3] 121:=zAl cs2 tb3 1
theorem cs4:zFx [C0,C1,C2,C3,C4] 161:=zAl cs3 tb4 40
theorem cs5:zFx [C0,C1,C2,C3,C4,C5] 201:=zAl cs4 tb5 40
theorem cs6:zFx [C0,C1,C2,C3,C4,C5,C6] 241:=zAl cs5 tb6 40
theorem cs7:zFx [C0,C1,C2,C3,C4,C5,C6,C7] 281:=zAl cs6 tb7 40
theorem cs8:zFx [C0,C1,C2,C3,C4,C5,C6,C7,C8] 282:=zAl cs7 tb8 1
theorem cs9:zFx [C0,C1,C2,C3,C4,C5,C6,C7,C8,C9] 283:=zAl cs8 tb9 1
theorem cs10:zFx [C0,C1,C2,C3,C4,C5,C6,C7,C8,C9,C10] 323:=zAl cs9 tb10 40
theorem cs11:zFx [C0,C1,C2,C3,C4,C5,C6,C7,C8,C9,C10,C11] 363:=zAl cs10 tb11 40
theorem cs12:zFx [C0,C1,C2,C3,C4,C5,C6,C7,C8,C9,C10,C11,C12] 364:=zAl cs11 tb12 1
theorem cs13:zFx [C0,C1,C2,C3,C4,C5,C6,C7,C8,C9,C10,C11,C12,C13] 404:=zAl cs12 tb13 40
theorem cs14:zFx [C0,C1,C2,C3,C4,C5,C6,C7,C8,C9,C10,C11,C12,C13,C14] 405:=zAl cs13 tb14 1
theorem cs15:zFx [C0,C1,C2,C3,C4,C5,C6,C7,C8,C9,C10,C11,C12,C13,C14,C15] 406:=zAl cs14 tb15 1
section
variable (prog:Program) (w:World)
theorem zDG:COk prog w zAR 420:=by
 intro f ds d h
 obtain ⟨k,_,h⟩:=zAB (show bnd (rkT.at f) (fun k=>bnd (zFW [C0,C1,C2,C3,C4,C5,C6,C7,C8,C9,C10,C11,C12,C13,C14,C15] k) fun c=>c f ds)=some d from h)
 obtain ⟨c,h2,h⟩:=zAB h
 rw [zEK] at h2
 exact zAn (cs15 prog w c (List.mem_of_getElem? h2)) (by decide) f ds d h
end
noncomputable abbrev zOq:List Value:=[.type "Exception", .type "BaseException", .type "object"]
abbrev zCG:Obj:=excClassObj "CasFail" "CasFail" 31 30 [.type "Exception"] zOq true [] [] false none none (some (.ref 15)) none (some (.str "CasFail" 189)) (some (.str "CasFail" 197)) (some (.bool true)) "Exception.__new__"
theorem zOw (P:Params):(H1 P).get? 31=some zCG:=by kernel_rfl
theorem zCF (P:Params):(GL P).get? 31=some zCG:=(zIN P (by decide)).trans (zOw P)
theorem zKr (P:Params):(H1 P).isNs 30=true:=by kernel_rfl
noncomputable abbrev zCH (h:Heap) (rest:List Value):Heap:=(h.push {cls:= .type "tuple",data:= .seq rest.toArray}).push {cls:= .ref 31,data:= .fields #[.ref h.objs.size, .none, .none, .none, .bool false, .none]}
section
variable {prog:Program} {w:World} {A:Around} {E:Value→Shared→Prop} {h:Heap} {g:Array GenState} {d:Drawn} {t:Nat} {os:OsState}
theorem zFt {mN:Str→Option Value} {rest:List Value} {oI:Obj} {Q:PySem.Fin→Shared→Prop}
  (hC:h.get? 31=some zCG) (hn:h.Ns 30 mN) (hni:mN "__init__"=some (.ref 28)) (hfI:h.get? 28=some oI) (hcI:oI.cls= .type "function") (hrest:rest.length≤10)
  (hq:wpAny (model prog w) A (call (.ref 28) (.ref (h.objs.size + 1) :: rest)) (fun v s'=>v= .none∧Q (.done (.ret (.ref (h.objs.size + 1)))) s') E ⟨zCH h rest,g,d,t,os⟩):
  wpAny (model prog w) A (Builtin.«type.__call__» ⟨.ref 31 :: rest,[]⟩) Q E ⟨h,g,d,t,os⟩:=by
 have F:=PySem.F.excBase_Exception
 repeat (first | with_reducible refine wpAny_loadPart_at hC ?_ | with_reducible refine wpAny_madeBy_exc hC ?_ | wp_step)
 refine codeAny_call_builtin_code (Code.quiet_builtin _ F.quiet) (wpAny_check_new_sub F hC ?_)
 refine codeAny_exc_new_sub F hC ?_ (by rw [sizeLine_eq]; lia)
 show wpAny _ _ _ _ _ _
 have up: ∀{a:Addr} {o:Obj},h.get? a=some o→(zCH h rest).get? a=some o:=fun e=>Heap.get?_push_of_some _ (Heap.get?_push_of_some _ e)
 have hC₁:=up hC
 have hn₁:(zCH h rest).Ns 30 mN:=let ⟨o,es,ep,e,r⟩:=hn; ⟨o,es,ep,up e,r⟩
 have hget:(zCH h rest).get? (h.objs.size + 1)=some {cls:= .ref 31,data:= .fields #[.ref h.objs.size, .none, .none, .none, .bool false, .none]}:=by heap_get
 have hcC:(Value.ref 31 :: zOq).contains (.ref 31)=true:=by simp
 unfold isInstance
 repeat (first | with_reducible refine wpAny_loadPart_at hget ?_ | (with_reducible refine wpAny_isSubtype_exc hC₁ ?_; rw [hcC]) | wp_step)
 show wpAny _ _ (typeLookup (.ref 31) _) _ _ _
 refine wpAny_typeLookup_exc hC₁ hn₁ F.mroIs F.init.lookup ?_
 rw [show mN (Str.ofString "__init__")=some (.ref 28) from hni]
 dsimp only
 refine wpAny_holding (wpAny_bind (wpAny_bindSpecial_def (s:=⟨zCH h rest,g,d,t,os⟩) (up hfI) hcI ?_))
 refine wpAny_bind (wpAny_mono hq (fun v s' h'=> ?_) fun V V x=>x)
 obtain ⟨rfl,h'⟩:=h'
 refine wpAny_pure ?_
 dsimp only
 rw [if_neg (by decide)]
 exact wpAny_pure h'
theorem zMw {mN:Str→Option Value} {rest:List Value} {oI:Obj} {Q:Value→Shared→Prop}
  (hC:h.get? 31=some zCG) (hn:h.Ns 30 mN) (hni:mN "__init__"=some (.ref 28)) (hfI:h.get? 28=some oI) (hcI:oI.cls= .type "function") (hrest:rest.length≤10)
  (hq:wpAny (model prog w) (A.under (.builtin "type.__call__" ⟨.ref 31 :: rest,[]⟩)) (call (.ref 28) (.ref (h.objs.size + 1) :: rest)) (fun v s'=>v= .none∧Q (.ref (h.objs.size + 1)) s') E ⟨zCH h rest,g,d,t,os⟩):
  wpAny (model prog w) A (call (.ref 31) rest) Q E ⟨h,g,d,t,os⟩:=by
 have f1:=tc_lookup
 have f2:=tc_bind (.ref 31)
 have hT:(⟨h,g,d,t,os⟩:Shared).TypeIs (.ref 31) "type":=⟨_,hC,rfl⟩
 refine wpAny_call (codeAny_of_tree ?_)
 show wpAny _ _ (callAny (.ref 31) _) _ _ _
 repeat (any_goals (first | assumption | with_reducible refine wpAny_loadPart_at hC ?_ | wp_step))
 refine ⟨rfl, ?_⟩
 refine codeAny_call_builtin_at (Code.quiet_builtin _ (by decide +kernel)) entry_typeCall (wpAny_check_type_call_sub hC (zFt hC hn hni hfI hcI hrest ?_))
 exact hq
end
noncomputable abbrev zBR:Heap:={objs:= #[]}
theorem in0:Frag.In [] zBR:=fun a o e=>by cases e
theorem fr0 {h:Heap} {L:Addr} {m:Str→Option Value} (hn:h.Ns L m):Fr zBR L h m:=⟨hn,fun b o e=>(by simp [Heap.get?] at e),Nat.zero_le _⟩
section
variable {prog:Program} {w:World} {A:Around} {E:Value→Shared→Prop} {s:Shared}
theorem zMo {pl:Sem Bool} {Q:Value×List Value→Shared→Prop} {L:Addr} {m:Str→Option Value} (hn:s.heap.Ns L m) (h:Q (.builtin "Exception.__init__",[]) {s with toks:=s.toks + 1}):wpAny (model prog w) A (getMethod (.type "Exception") "__init__" pl) Q E s:=
 method_type (K:=[]) (fr0 hn) in0 (by first | rfl | kernel_rfl) (by decide +kernel) (v:= .builtin "Exception.__init__") (by kernel_rfl) (by decide +kernel) h
end
section
variable {prog:Program} {w:World} {A:Around} {E:Value→Shared→Prop} {h:Heap} {g:Array GenState} {d:Drawn} {t:Nat} {os:OsState}
noncomputable abbrev zKi (a b c dd e f:Value):Obj:={cls:= .ref 31,data:= .fields #[a,b,c,dd,e,f]}
theorem zFl {e a:Addr} {v:Value} {Q:Value→Shared→Prop} (hC:h.get? 31=some zCG) (he:h.get? e=some (zKi (.ref a) .none .none .none (.bool false) .none))
  (hq: ∀h',(∀b o,b≠e→h.get? b=some o→h'.get? b=some o)→(∃tt,h'.get? e=some (zKi (.ref tt) .none .none .none (.bool false) .none))→Q .none ⟨h',g,d,t,os⟩):
  wpAny (model prog w) A (call (.builtin "Exception.__init__") [.ref e,v]) Q E ⟨h,g,d,t,os⟩:=by
 have F:=PySem.F.excBase_Exception
 refine wpAny_call (codeAny_call_builtin F.init.plain F.initEntry (wpAny_check_init_sub F hC he rfl ?_))
 wp_walk
 refine hq _ (fun b o hb x=> ?_) ⟨h.objs.size, ?_⟩
 ·exact (Heap.get?_update_other _ _ (Ne.symm hb)).trans (Heap.get?_push_of_some _ x)
 ·exact Heap.get?_update_self _ (Heap.get?_push_of_some _ he) rfl
end
section
variable {prog:Program} {w:World} {A:Around} {E:Value→Shared→Prop} {h:Heap} {g:Array GenState} {d:Drawn} {t:Nat} {os:OsState}
theorem zKj:typeLookup (.type "Exception") "kind"=pure none:=by rw [typeLookup_type,builtinLookup_eq_fast]; kernel_rfl
theorem zOr:typeLookup (.type "Exception") "text"=pure none:=by rw [typeLookup_type,builtinLookup_eq_fast]; kernel_rfl
theorem zOv {x:Addr} {name:Str} {v:Value} {mN mA:Str→Option Value} {ns:List Str} {Q:Unit→Shared→Prop} (hB:typeLookup (.type "Exception") name=pure none) (hC:h.get? 31=some zCG) (hn:h.Ns 30 mN) (hns:mN "__setattr__"=none) (hna:mN name=none) (hx:x≠31) (I:h.Inst x 31 mA)
  (hw:Within mA ns) (hsz:ns.length≤10)
  (hq: ∀h' tk',h'.Inst x 31 (fun y=>if y=name then some v else mA y)→
   (∀b o,b≠x→(∀o₀ dx,h.get? x=some o₀→o₀.dict=some dx→b≠dx)→h.get? b=some o→h'.get? b=some o)→
   (∀o₀,h.get? x=some o₀→∃o₁,h'.get? x=some o₁∧o₁.cls=o₀.cls∧o₁.data=o₀.data∧o₁.slots=o₀.slots∧∀dx,o₀.dict=some dx→o₁.dict=some dx)→Q () ⟨h',g,d,tk',os⟩):
  wpAny (model prog w) A (setAttr (.ref x) name v) Q E ⟨h,g,d,t,os⟩:=
 store_attr PySem.F.store_Exception hC hn hns hna hB hx I hq hw (by rw [sizeLine_eq]; lia)
end
noncomputable def zFg:List Stmt:=[
 .Expr (.Call (.Attribute (.Name "Exception" ⟨5,8,5,17⟩) "__init__" ⟨5,8,5,26⟩) [.Name "self" ⟨5,27,5,31⟩, .BinOp (.BinOp (.Name "kind" ⟨5,33,5,37⟩) .Add (.Constant (.str ": ") 0 ⟨5,40,5,44⟩) ⟨5,33,5,44⟩) .Add (.Name "text" ⟨5,47,5,51⟩) ⟨5,33,5,51⟩] [] ⟨5,8,5,52⟩) ⟨5,8,5,52⟩,
 .Assign [.Attribute (.Name "self" ⟨6,8,6,12⟩) "kind" ⟨6,8,6,17⟩] (.Name "kind" ⟨6,20,6,24⟩) ⟨6,8,6,24⟩,
 .Assign [.Attribute (.Name "self" ⟨7,8,7,12⟩) "text" ⟨7,8,7,17⟩] (.Name "text" ⟨7,20,7,24⟩) ⟨7,8,7,24⟩]
noncomputable def zBd:Scope:={kind:= .function,names:=[("self", .local),("kind", .local),("text", .local),("Exception", .globalImplicit)],isGenerator:=false,isCoroutine:=false}
theorem zGi (P:Params):zDb (H1 P) 28=(true, .stmts zFg,zBd,[],mainGlobals,builtinsNs,true):=by kernel_rfl
theorem zKZ (P:Params) (a b c:Value):bindArgs (zFG (H1 P) 28) ⟨[a,b,c],[]⟩=(pure [("self",a),("kind",b),("text",c)]:Sem (List (Str×Value))):=by kernel_rfl
theorem zMb (P:Params):(fun o:Option Obj=>match o with | some o=>(match o.cls with | .type n=>decide (n="function") | _=>false) | none=>false) ((H1 P).get? 28)=true:=by kernel_rfl
theorem zEd (P:Params):((H1 P).nsMap 30 "__init__",(H1 P).nsMap 30 "__setattr__",(H1 P).nsMap 30 "kind",(H1 P).nsMap 30 "text",(H1 P).nsMap 30 "__getattribute__",(H1 P).nsMap 30 "__getattr__")=(some (.ref 28),none,none,none,none,none):=by kernel_rfl
theorem zEX (P:Params):(mgP P "Exception",(H1 P).nsMap builtinsNs "Exception",mgP P "CasFail",mgP P "str",(H1 P).nsMap builtinsNs "str")=(none,some (.type "Exception"),some (.ref 31),none,some (.type "str")):=by kernel_rfl
section
open Builtin Builtin.ObjectAttr
section
variable {prog:Program} {w:World} {A:Around} {E:Value→Shared→Prop} {h:Heap} {g:Array GenState} {d:Drawn} {t:Nat} {os:OsState}
variable {nm q:Str} {C N x:Addr} {bs bm:List Value} {sn:List Str} {sub:List Value} {ab:Bool} {col:Option Bool} {dd:Option Addr} {k0 k1 k2 k3 k5:Option Value} {B newId sa owner:String} {mN:Str→Option Value} {name:Str} {v:Value} {o:Obj}
set_option tactic.hygienic true in
theorem zGM {tk:Tok} {Q:PySem.Fin→Shared→Prop} (SF:StoreFacts B bm sa owner) (hB:typeLookup (.type B) name=pure none) (hC:h.get? C=some (excClassObj nm q C N bs bm true sn sub ab col dd k0 k1 k2 k3 k5 newId)) (hn:h.Ns N mN) (hna:mN name=none)
  (hx:h.get? x=some o) (hc:o.cls= .ref C) (hnc: ∀c,o.data≠ .cls c) (hdn:o.dict=none)
  (hq: ∀h' tk',(∀b o,b≠x→h.get? b=some o→h'.get? b=some o)→h'.get? x=some {o with dict:=some h.objs.size}→h'.Ns1 h.objs.size (fun y=>if y=name then some v else none)→Q (.done (.ret .none)) ⟨h',g,d,tk',os⟩):
  wpAny (model prog w) A (Builtin.«object.__setattr__» ⟨[.ref x, .str name tk,v],[]⟩) Q E ⟨h,g,d,t,os⟩:=by
 have hpass:=SF.passes (.ref x)
 unfold Builtin.«object.__setattr__»
 repeat (first | rw [refuse_eq] | (rw [refuseLoop_ref,hpass]) | (with_reducible refine wpAny_loadPart_at hx ?_; rw [hc]) | with_reducible refine wpAny_mroOf_exc hC ?_ | (with_reducible refine wpAny_typeLookup_exc hC hn SF.mro hB ?_; rw [hna]) | wp_step)
 rw [hdn,if_neg (by simp [typeHasDict])]
 split
 ·rename_i hcd
  cases hcd
 split
 ·rename_i c hcd
  exact absurd hcd (hnc c)
 have hx₁:(h.push {cls:= .type "dict",data:= .dict #[]}).get? x=some o:=Heap.get?_push_of_some _ hx
 have hxs:x≠h.objs.size:=Nat.ne_of_lt (Heap.lt_size hx)
 refine wpAny_bind (wpAny_alloc' (wpAny_bind (wpAny_update' hx₁ (wpAny_pure ?_))))
 have hgd:((h.push {cls:= .type "dict",data:= .dict #[]}).update x fun o=>{cls:=o.cls,dict:=some h.objs.size,data:=o.data,slots:=o.slots}).get? h.objs.size=some {cls:= .type "dict",data:= .dict #[]}:=
  (Heap.get?_update_ne _ _ _ _ hxs.symm).trans (Heap.get?_push_at rfl rfl)
 have hnd:((h.push {cls:= .type "dict",data:= .dict #[]}).update x fun o=>{cls:=o.cls,dict:=some h.objs.size,data:=o.data,slots:=o.slots}).Ns h.objs.size (fun _=>none):=
  ⟨_, #[],_,hgd,rfl,fun e he=>absurd he (by simp),fun _=>rfl⟩
 show wpAny _ _ (storeInDict h.objs.size (.str name tk) name v) _ _ _
 unfold storeInDict newKeyGuard
 refine wpAny_bind (wpAny_pure (wpAny_bind (wpAny_nsSet1 (Heap.Ns1.of_empty hnd) fun h' hn' hs=> ?_)))
 obtain ⟨oD,esD,epD,hoD,hdD,hcD⟩:=hn'.count (Within.cons name v Within.nil)
 refine wpAny_bind (wpAny_lookBehind hoD (by rw [hdD]; exact pastItsLine_dict (Nat.le_trans hcD (by rw [List.length_cons,List.length_nil,sizeLine_eq]; lia))) ?_)
 wp_walk
 refine hq h' _ (fun b ob hbx hb=> ?_) ?_ hn'
 ·exact (hs.2 b (Nat.ne_of_lt (Heap.lt_size hb))).trans ((Heap.get?_update_ne _ _ _ _ hbx).trans (Heap.get?_push_of_some _ hb))
 ·refine (hs.2 x hxs).trans (Heap.get?_update_self _ hx₁ ?_)
  have hfr:=(Heap.get?_some_iff.mp hx).2
  obtain ⟨oc,od,odt,osl⟩:=o
  cases odt <;> first | rfl | exact hfr
theorem zGL {tk:Tok} {R:Result→Shared→Prop} (SF:StoreFacts B bm sa owner) (hB:typeLookup (.type B) name=pure none) (hC:h.get? C=some (excClassObj nm q C N bs bm true sn sub ab col dd k0 k1 k2 k3 k5 newId)) (hn:h.Ns N mN) (hna:mN name=none)
  (hx:h.get? x=some o) (hc:o.cls= .ref C) (hnc: ∀c,o.data≠ .cls c) (hdn:o.dict=none)
  (hq: ∀h' tk',(∀b o,b≠x→h.get? b=some o→h'.get? b=some o)→h'.get? x=some {o with dict:=some h.objs.size}→h'.Ns1 h.objs.size (fun y=>if y=name then some v else none)→R (.ok (.ret .none)) ⟨h',g,d,tk',os⟩):
  codeAny (model prog w) A (.call (.builtin sa) ⟨[.ref x, .str name tk,v],[]⟩) R ⟨h,g,d,t,os⟩:=
 codeAny_call_builtin SF.slot.plain SF.entry (wpAny_check_sa SF hC hx hc (zGM SF hB hC hn hna hx hc hnc hdn hq))
theorem zHJ {Q:Unit→Shared→Prop} (SF:StoreFacts B bm sa owner) (hB:typeLookup (.type B) name=pure none) (hC:h.get? C=some (excClassObj nm q C N bs bm true sn sub ab col dd k0 k1 k2 k3 k5 newId)) (hn:h.Ns N mN) (hns:mN "__setattr__"=none) (hna:mN name=none)
  (hx:h.get? x=some o) (hc:o.cls= .ref C) (hnc: ∀c,o.data≠ .cls c) (hdn:o.dict=none)
  (hq: ∀h' tk',(∀b o,b≠x→h.get? b=some o→h'.get? b=some o)→h'.get? x=some {o with dict:=some h.objs.size}→h'.Ns1 h.objs.size (fun y=>if y=name then some v else none)→Q () ⟨h',g,d,tk',os⟩):
  wpAny (model prog w) A (setAttr (.ref x) name v) Q E ⟨h,g,d,t,os⟩:=by
 have f3:=SF.slot.bind (.ref x)
 unfold setAttr callSpecial? specialOf
 repeat (any_goals (first | assumption | (with_reducible refine wpAny_loadPart_at hx ?_; rw [hc]) | (with_reducible refine wpAny_typeLookup_exc hC hn SF.mro SF.slot.lookup ?_; rw [hns]) | wp_step))
 refine zGL SF hB hC hn hna hx hc hnc hdn fun h' tk' hk hsame hns'=> ?_
 repeat (any_goals (first | assumption | wp_step))
 exact hq h' tk' hk hsame hns'
end
end
section
variable {prog:Program} {w:World} {A:Around} {E:Value→Shared→Prop} {h:Heap} {g:Array GenState} {d:Drawn} {t:Nat} {os:OsState}
theorem zKs {x:Addr} {o:Obj} {name:Str} {v:Value} {mN:Str→Option Value} {Q:Unit→Shared→Prop} (hB:typeLookup (.type "Exception") name=pure none) (hC:h.get? 31=some zCG) (hn:h.Ns 30 mN) (hns:mN "__setattr__"=none) (hna:mN name=none)
  (hx:h.get? x=some o) (hc:o.cls= .ref 31) (hnc: ∀c,o.data≠ .cls c) (hdn:o.dict=none)
  (hq: ∀h' tk',(∀b o,b≠x→h.get? b=some o→h'.get? b=some o)→h'.get? x=some {o with dict:=some h.objs.size}→h'.Ns1 h.objs.size (fun y=>if y=name then some v else none)→Q () ⟨h',g,d,tk',os⟩):
  wpAny (model prog w) A (setAttr (.ref x) name v) Q E ⟨h,g,d,t,os⟩:=
 zHJ PySem.F.store_Exception hB hC hn hns hna hx hc hnc hdn hq
end
def zHB (P:Params) (s:Shared):Prop:=∀a o,(GL P).get? a=some o→s.heap.get? a=some o
noncomputable abbrev excD (a:Value) (dx:Addr):Obj:={cls:= .ref 31,data:= .fields #[a, .none, .none, .none, .bool false, .none],dict:=some dx}
section
variable {prog:Program} {w:World} {A:Around} {E:Value→Shared→Prop}
theorem zEQ {M:Model} {env:Env} {s:Shared} {m:Str→Option Value} {n:Str} {p:Pos} {v:Value} {Q:Value→Shared→Prop} (hk:env.scope.kind= .function) (hl:env.kindOf n=some .local) (hn:s.heap.Ns env.locals m) (hm:m n=some v) (hQ:Q v s)
  (hd:(n==("__debug__":Str))=false):wpAny M A (eval (.Name n p) env) Q E s:=wpAny_Name (wpAny_loadName_local hk hl hn hm hQ) hd
theorem zOO {M:Model} {env:Env} {s:Shared} {n:Str} {p:Pos} {v:Value} {Q:Value→Shared→Prop} (G:zHB w.params s) (hk:env.scope.kind= .function) (hg:env.globals=mainGlobals∧env.builtins=builtinsNs) (hl:env.kindOf n=some .globalImplicit) (h1:mgP w.params n=none) (h2:(H1 w.params).nsMap builtinsNs n=some v) (hQ:Q v s)
  (hd:(n==("__debug__":Str))=false):wpAny M A (eval (.Name n p) env) Q E s:=by
 have h:=zFe w.params
 simp only [Bool.and_eq_true] at h
 obtain ⟨⟨⟨⟨n1,n2⟩,_⟩,_⟩,_⟩:=h
 refine Calls.Name_function_global hk hl ?_ hd
 exact Calls.loadGlobal_builtin (by rw [hg.1]; exact (Ns.gl (Heap.Ns.of_isNs n1)).keeps G) h1 (by rw [hg.2]; exact (Ns.gl (Heap.Ns.of_isNs n2)).keeps G) h2 hQ
theorem zIn {M:Model} {env:Env} {s:Shared} {n:Str} {p:Pos} {v:Value} {Q:Value→Shared→Prop} (G:zHB w.params s) (hk:env.scope.kind= .function) (hg:env.globals=mainGlobals∧env.builtins=builtinsNs) (hl:env.kindOf n=some .globalImplicit) (h1:mgP w.params n=some v) (hQ:Q v s)
  (hd:(n==("__debug__":Str))=false):wpAny M A (eval (.Name n p) env) Q E s:=by
 have h:=zFe w.params
 simp only [Bool.and_eq_true] at h
 obtain ⟨⟨⟨⟨n1,n2⟩,_⟩,_⟩,_⟩:=h
 refine Calls.Name_function_global hk hl ?_ hd
 exact Calls.loadGlobal_global (by rw [hg.1]; exact (Ns.gl (Heap.Ns.of_isNs n1)).keeps G) h1 hQ
theorem zMx {env:Env} {s:Shared} {m:Str→Option Value} {e:Addr} {a:Addr} {k x:Str} {tk tx:Tok} {Q:Flow→Shared→Prop} (G:zHB w.params s) (hsc:env.scope=zBd) (hgl:env.globals=mainGlobals∧env.builtins=builtinsNs) (hn:s.heap.Ns env.locals m) (hel:e≠env.locals)
  (m1:m "self"=some (.ref e)) (m2:m "kind"=some (.str k tk)) (m3:m "text"=some (.str x tx)) (he:s.heap.get? e=some (zKi (.ref a) .none .none .none (.bool false) .none)) (hen:(GL w.params).get? e=none) (hs1:k.length≤1000) (hs2:x.length≤1000)
  (hQ: ∀s' b dx m,(∃h' t',s'={s with heap:=h',toks:=t'})→(∀c o,c≠e→s.heap.get? c=some o→s'.heap.get? c=some o)→s'.heap.get? e=some (excD b dx)→s.heap.get? dx=none→s'.heap.Ns1 dx m→m "kind"=some (.str k tk)→Q .next s'):
  wpAny (model prog w) A (execs zFg env) Q E s:=by
 obtain ⟨c1,c2⟩:=Prod.mk.inj (zEd w.params)
 obtain ⟨c2,c3⟩:=Prod.mk.inj c2
 obtain ⟨c3,c4⟩:=Prod.mk.inj c3
 obtain ⟨c4,_⟩:=Prod.mk.inj c4
 obtain ⟨x1,x2⟩:=Prod.mk.inj (zEX w.params)
 obtain ⟨x2,_⟩:=Prod.mk.inj x2
 have e31:e≠31:=fun q=>by rw [q,zCF] at hen; cases hen
 have n30:=Ns.gl (Heap.Ns.of_isNs (zKr w.params))
 have e30:e≠30:=fun q=>by obtain ⟨o,_,_,ho,_⟩:=n30; rw [q,ho] at hen; cases hen
 have hk:env.scope.kind= .function:=by rw [hsc]; rfl
 have k1:env.kindOf "self"=some .local:=by unfold Env.kindOf; rw [hsc]; decide +kernel
 have k2:env.kindOf "kind"=some .local:=by unfold Env.kindOf; rw [hsc]; decide +kernel
 have k3:env.kindOf "text"=some .local:=by unfold Env.kindOf; rw [hsc]; decide +kernel
 have k4:env.kindOf "Exception"=some .globalImplicit:=by unfold Env.kindOf; rw [hsc]; decide +kernel
 have d1:((("self":Str))==("__debug__":Str))=false:=by decide +kernel
 have d2:((("kind":Str))==("__debug__":Str))=false:=by decide +kernel
 have d3:((("text":Str))==("__debug__":Str))=false:=by decide +kernel
 have d4:((("Exception":Str))==("__debug__":Str))=false:=by decide +kernel
 have l2:(Str.length ": ")=2:=by decide +kernel
 obtain ⟨h,g,d,t,os⟩:=s
 unfold zFg
 refine wpAny_execs_cons (wpAny_Expr_any ?_ (zBE hk) rfl)
 refine methodCall_KW (zOO G hk hgl k4 x1 x2 (zMo hn ?_) d4) rfl
 refine Calls.callWith_builtin rfl ?_
 refine Calls.evalArgs_plain (Calls.spliced_cons (zEQ hk k1 hn m1 ?_ d1))
 refine Calls.spliced_cons (wpAny_BinOp (wpAny_BinOp (zEQ hk k2 hn m2 (Calls.Constant_str ?_) d2)))
 refine add_str (fun t' tk'=> ?_) (by rw [sizeLine_eq,l2]; lia)
 refine zEQ hk k3 hn m3 (add_str (fun t'' tk''=>Calls.spliced_nil ?_) (by rw [sizeLine_eq,Str.length_append,l2]; lia)) d3
 refine zFl (G _ _ (zCF _)) he fun h1 ke1 ⟨tt,he1⟩=> ?_
 have hn1:h1.Ns env.locals m:=by obtain ⟨o,es,ep,ho,r⟩:=hn; exact ⟨o,es,ep,ke1 _ _ (Ne.symm hel) ho,r⟩
 have hC1:h1.get? 31=some zCG:=ke1 _ _ (Ne.symm e31) (G _ _ (zCF _))
 have hN1:h1.Ns 30 ((H1 w.params).nsMap 30):=by obtain ⟨o,es,ep,ho,r⟩:=n30; exact ⟨o,es,ep,ke1 _ _ (Ne.symm e30) (G _ _ ho),r⟩
 refine wpAny_execs_cons (plainObj_wpAny_Assign_Attribute (zEQ hk k2 hn1 m2 (zEQ hk k1 hn1 m1 ?_ d1) d2) rfl)
 refine zKs zKj hC1 hN1 c2 c3 he1 rfl (fun V=>by rintro ⟨⟩) rfl fun h2 tk2 ke2 he2 hns2=> ?_
 have hn2:h2.Ns env.locals m:=by obtain ⟨o,es,ep,ho,r⟩:=hn1; exact ⟨o,es,ep,ke2 _ _ (Ne.symm hel) ho,r⟩
 have hC2:h2.get? 31=some zCG:=ke2 _ _ (Ne.symm e31) hC1
 have hN2:h2.Ns 30 ((H1 w.params).nsMap 30):=by obtain ⟨o,es,ep,ho,r⟩:=hN1; exact ⟨o,es,ep,ke2 _ _ (Ne.symm e30) ho,r⟩
 have hds:e≠h1.objs.size:=Nat.ne_of_lt (Heap.lt_size he1)
 refine wpAny_execs_cons (plainObj_wpAny_Assign_Attribute (zEQ hk k3 hn2 m3 (zEQ hk k1 hn2 m1 ?_ d1) d3) rfl)
 refine zOv zOr hC2 hN2 c2 c4 e31 ⟨_,he2,rfl,(fun V=>by rintro ⟨⟩), .inr ⟨_,rfl,hds.symm,hns2⟩⟩ (Within.cons _ _ Within.nil) (by simp) fun h3 tk3 I3 ke3 ko3=> ?_
 refine wpAny_execs_nil ?_
 obtain ⟨o3,ho3,hc3,hd3,hs3,hx3⟩:=ko3 _ he2
 have hdx:=hx3 _ rfl
 obtain ⟨oc,od,odt,osl⟩:=o3
 cases hc3; cases hd3; cases hs3; cases hdx
 obtain ⟨o',ho',_,_,hI⟩:=I3
 rw [ho3] at ho'; cases ho'
 rcases hI with ⟨hI,_⟩ | ⟨dx,hI,_,hns3⟩
 ·cases hI
 cases hI
 refine hQ _ (.ref tt) h1.objs.size _ ⟨_,_,rfl⟩ (fun c o hc ho=> ?_) ho3 ?_ hns3 ?_
 ·have a1:=ke1 c o hc ho
  refine ke3 c o hc (fun o₀ dx h0 h0'=> ?_) (ke2 c o hc a1)
  rw [he2] at h0; cases h0; cases h0'
  exact Nat.ne_of_lt (Heap.lt_size a1)
 ·cases q:h.get? h1.objs.size with
  | none=>rfl
  | some o=>exact absurd (Heap.lt_size (ke1 _ o hds.symm q)) (Nat.lt_irrefl _)
 ·show (if ("kind":Str)="text" then _ else if ("kind":Str)="kind" then _ else none)=_
  rw [if_neg (by decide +kernel),if_pos rfl]
theorem zMv {s:Shared} {e:Addr} {a:Addr} {k x:Str} {tk tx:Tok} {Q:Value→Shared→Prop} (G:zHB w.params s) (hroom:A.depth < 1000) (he:s.heap.get? e=some (zKi (.ref a) .none .none .none (.bool false) .none))
  (hen:(GL w.params).get? e=none) (hs1:k.length≤1000) (hs2:x.length≤1000)
  (hQ: ∀s' b dx m,(∃h' t',s'={s with heap:=h',toks:=t'})→(∀c o,c≠e→s.heap.get? c=some o→s'.heap.get? c=some o)→s'.heap.get? e=some (excD b dx)→s.heap.get? dx=none→s'.heap.Ns1 dx m→m "kind"=some (.str k tk)→Q .none s'):
  wpAny (model prog w) A (call (.ref 28) [.ref e, .str k tk, .str x tx]) Q E s:=by
 have hb:=zKZ w.params (.ref e) (.str k tk) (.str x tx)
 obtain ⟨e1,e2⟩:=Prod.mk.inj (zGi w.params)
 obtain ⟨e2,e3⟩:=Prod.mk.inj e2
 obtain ⟨e3,e4⟩:=Prod.mk.inj e3
 obtain ⟨e4,e5⟩:=Prod.mk.inj e4
 obtain ⟨e5,e6⟩:=Prod.mk.inj e5
 obtain ⟨e6,e7⟩:=Prod.mk.inj e6
 obtain ⟨o,ho,hd⟩:=zHZ e1
 have ho':=zFh ho fun q=>by rw [q] at hd; cases hd
 generalize zFG (H1 w.params) 28=fd at e1 e2 e3 e4 e5 e6 e7 hd hb
 have e31:e≠31:=fun q=>by rw [q,zCF] at hen; cases hen
 refine wpAny_call (codeAny_call_cells (by show A.depth < 1000; lia) (G _ _ ho') hd (by obtain ⟨mc,n1,n2⟩:=(zBO w).nolimit; exact ⟨mc,n1.keeps G,n2⟩) ((CodeRec.gl (zFI e7)).keeps G) e2 hb e4 (fun y hy=> ?_) (fun s₁ X=> ?_) (by rw [e3]; rfl) (by rw [e3]; rfl) (by rw [e3]; rfl))
 ·rw [e3]
  left
  rcases List.mem_cons.mp hy with q | hy
  ·rw [q]; show List.lookup ("self":Str) zBd.names=_; decide +kernel
  rcases List.mem_cons.mp hy with q | hy
  ·rw [q]; show List.lookup ("kind":Str) zBd.names=_; decide +kernel
  rcases List.mem_cons.mp hy with q | hy
  ·rw [q]; show List.lookup ("text":Str) zBd.names=_; decide +kernel
  ·cases hy
 generalize hE:callEnvC fd s.heap.objs.size 28=env at X ⊢
 have hsc:env.scope=zBd:=by rw [←hE]; exact e3
 have hgl:env.globals=mainGlobals∧env.builtins=builtinsNs:=by rw [←hE]; exact ⟨e5,e6⟩
 have k1:env.kindOf "self"=some .local:=by unfold Env.kindOf; rw [hsc]; decide +kernel
 have k2:env.kindOf "kind"=some .local:=by unfold Env.kindOf; rw [hsc]; decide +kernel
 have k3:env.kindOf "text"=some .local:=by unfold Env.kindOf; rw [hsc]; decide +kernel
 have hn:=X.toInCall.ns
 obtain ⟨h₁,tk₁,es,keep⟩:=X.done
 have hL:s.heap.objs.size≤env.locals:=X.toInCall.fresh
 have hnd:(([("self",Value.ref e),("kind", .str k tk),("text", .str x tx)]:List (Str×Value)).map (·.1)).Nodup:=by
  show (["self","kind","text"]:List Str).Nodup
  decide +kernel
 have m1:=zDH (v:= .ref e) (m:=fun V=>none) hnd (by simp) k1
 have m2:=zDH (v:= .str k tk) (m:=fun V=>none) hnd (by simp) k2
 have m3:=zDH (v:= .str x tx) (m:=fun V=>none) hnd (by simp) k3
 generalize bindL env.kindOf [("self",Value.ref e),("kind", .str k tk),("text", .str x tx)] (fun V=>none)=m at hn m1 m2 m3
 clear X hE
 have hes:=Heap.lt_size he
 subst es
 refine zMx (fun b o hb=>keep b o (G b o hb)) hsc hgl hn (fun q=>by rw [q] at hes; exact absurd hes (Nat.not_lt.mpr hL)) m1 m2 m3 (keep _ _ he) hen hs1 hs2 fun s' b dx m ⟨h',t',es⟩ k1 k2 k3 k4 k5=> ?_
 subst es
 refine hQ _ b dx m ⟨h',t',rfl⟩ (fun c o hc ho=>k1 c o hc (keep c o ho)) k2 ?_ k4 k5
 cases q:s.heap.get? dx with
 | none=>rfl
 | some o=>rw [keep _ _ q] at k3; cases k3
end
noncomputable abbrev frs (l:List Env):List Addr:=l.filterMap (·.frame)
section
variable {M:Model} {A:Around} {E:Value→Shared→Prop} {s:Shared}
def zSq (F:List Addr) (L e:Addr) (oe:Obj) (h h':Heap):Prop:=
 ∃T oT ts,h.get? T=none∧T≠e∧h'.get? e=some (oe.mapFields (·.setIfInBounds 1 (.ref T)))∧h'.get? T=some oT∧oT.data= .fields ts∧ts[3]? =some (rawInt L)∧
  (∀b o,b≠e→b ∉ F→h.get? b=some o→h'.get? b=some o)∧∀b o,b≠e→h.get? b=some o→∃sl,h'.get? b=some {o with slots:=sl}
theorem zDZ {env:Env} {outer:List Env} {L e:Addr} {oe:Obj} {vs:Array Value} {head:Value} {hadNext:Bool} {Q:Unit→Shared→Prop}
  (hfr:A.frames=some (env :: outer)) (hl:s.heap.FunFrames zBR (env :: outer)) (hf:env.frame=some L)
  (he:s.heap.get? e=some oe) (hd:oe.data= .fields vs) (hsz:1 < vs.size)
  (h: ∀h',zSq (frs (env :: outer)) L e oe s.heap h'→Q () {s with heap:=h'}):
  wpAny M A (do let a←frameOf env; let pl←entryPlaceOf L hadNext; let b←EntryCells.newEntry head a .none (rawInt L) .none pl; setField (.ref e) 1 b) Q E s:=by
 have hene:e ∉ frs (env :: outer):=fun hm=>by
  obtain ⟨_,o,ho,hnf⟩:=hl.mem hm
  rw [he] at ho; injection ho with ho; subst ho; exact hnf vs hd
 refine wpAny_bind (wpAny_frameOf_fun hfr hl hf fun h₁ hs₁=> ?_)
 refine wpAny_bind (wpAny_entryPlaceOf fun pl hpl=> ?_)
 unfold EntryCells.newEntry newFields
 refine wpAny_bind (wpAny_newObj_type ?_ (hpl.sizeOk5 _ _ _ _ _))
 have he₁:h₁.get? e=some oe:=(hs₁.2.1 e hene).trans he
 have he₂:=Heap.get?_push_of_some (h:=h₁) {cls:= .type "traceback",dict:=none,data:= .fields ([head, .ref L, .none,rawInt L, .none]++(if pl.isEmpty then List.replicate 6 Value.none else pl)).toArray} he₁
 refine wpAny_setField he₂ hd hsz (h _ ?_)
 have hTe:h₁.objs.size≠e:=Nat.ne_of_gt (Heap.lt_size he₁)
 have hd₃:=Obj.data_mapFields hd (·.setIfInBounds 1 (Value.ref h₁.objs.size))
 have he₃:=Heap.get?_update_self (Obj.mapFields (·.setIfInBounds 1 (Value.ref h₁.objs.size))) he₂ (Obj.isFreed_of_fields hd₃)
 have hT₃:=(Heap.get?_update_other (h₁.push {cls:= .type "traceback",dict:=none,data:= .fields ([head, .ref L, .none,rawInt L, .none]++(if pl.isEmpty then List.replicate 6 Value.none else pl)).toArray})
  (Obj.mapFields (·.setIfInBounds 1 (Value.ref h₁.objs.size))) (Ne.symm hTe)).trans (Heap.get?_push_size h₁ rfl)
 have keep: ∀b o,b≠e→h₁.get? b=some o→
   ((h₁.push {cls:= .type "traceback",dict:=none,data:= .fields ([head, .ref L, .none,rawInt L, .none]++(if pl.isEmpty then List.replicate 6 Value.none else pl)).toArray}).update e (Obj.mapFields (·.setIfInBounds 1 (Value.ref h₁.objs.size)))).get? b=some o:=fun b o hbe hb=>by
  rw [Heap.get?_update_other _ _ (Ne.symm hbe)]
  exact Heap.get?_push_of_some _ hb
 refine ⟨h₁.objs.size,_,_,Heap.get?_none_of_le (by rw [hs₁.1]; exact Nat.le_refl _),hTe,he₃,hT₃,rfl,by first | (simp; done) | (rcases hpl with rfl | ⟨_,_,_,_,_,_,_,rfl⟩ <;> simp),fun b o hb hF ho=>keep b o hb ((hs₁.2.1 b hF).trans ho),fun b o hb ho=> ?_⟩
 obtain ⟨sl,hs⟩:=hs₁.2.2 b o ho
 exact ⟨sl,keep b _ hb hs⟩
end
noncomputable abbrev excT (a t:Value) (dx:Addr):Obj:={cls:= .ref 31,data:= .fields #[a,t, .none, .none, .bool false, .none],dict:=some dx}
structure Fly (l:List Env) (s₀:Shared) (mk:Value) (e:Addr) (s:Shared):Prop where
 same: ∃h' t',s={s₀ with heap:=h',toks:=t'}
 keep: ∀b o,b ∉ frs l→s₀.heap.get? b=some o→s.heap.get? b=some o
 slots: ∀b o,s₀.heap.get? b=some o→∃sl,s.heap.get? b=some {o with slots:=sl}
 new:s₀.heap.get? e=none
 ex: ∃a t dx m tk,s.heap.get? e=some (excT a t dx)∧s₀.heap.get? dx=none∧s.heap.Ns1 dx m∧m "kind"=some (.str "limit" tk)∧
  ((t= .none∧mk= .none)∨∃T oT ts,t= .ref T∧s₀.heap.get? T=none∧T≠e∧s.heap.get? T=some oT∧oT.data= .fields ts∧ts[3]? =some mk)
theorem FunFrames.slots {h h':Heap} {l:List Env} (k: ∀b o,h.get? b=some o→∃sl,h'.get? b=some {o with slots:=sl}) (hl:h.FunFrames zBR l):h'.FunFrames zBR l:=
 hl.of_keeps fun b o ho V=>let ⟨_,e⟩:=k b o ho; ⟨_,e,rfl⟩
section
variable {M:Model} {A:Around} {E:Value→Shared→Prop} {s s₀:Shared}
theorem zDr {env:Env} {outer l:List Env} {L e:Addr} {Q:Unit→Shared→Prop} (hfr:A.frames=some (env :: outer)) (hl:s.heap.FunFrames zBR (env :: outer)) (hf:env.frame=some L) (F:Fly l s₀ .none e s)
  (hsub: ∀b∈frs (env :: outer),b∈frs l∨s₀.heap.get? b=none) (hQ: ∀s',Fly l s₀ (rawInt L) e s'→(∀b o,s.heap.get? b=some o→(∀vs,o.data≠ .fields vs)→∃sl,s'.heap.get? b=some {o with slots:=sl})→Q () s'):wpAny M A (noteFrame (.ref e) env) Q E s:=by
 obtain ⟨a,t,dx,m,tk,he,hdx,hns,hm,ht⟩:=F.ex
 have fin: ∀h₂ h',(∀b o,b≠e→(∀T,t= .ref T→b≠T)→s.heap.get? b=some o→h₂.get? b=some o)→h₂.get? e=some (excT a t dx)→(∀b,s.heap.get? b=none→h₂.get? b=none)→(∀b,h₂.get? b=none→s.heap.get? b=none)→zSq (frs (env :: outer)) L e (excT a t dx) h₂ h'→Q () {s with heap:=h'}:=fun h₂ h' k2 he2 kn kn' N=>by
  obtain ⟨T,oT,ts,hT,hTe,he',hT',hd',h3',kp,ks⟩:=N
  have tn: ∀T,t= .ref T→s₀.heap.get? T=none:=fun T e=>by
   rcases ht with ⟨ht,_⟩ | ⟨T',_,_,e',hn,_⟩
   ·rw [ht] at e; cases e
   ·rw [e'] at e; cases e; exact hn
  have dne:dx≠e:=fun q=>by obtain ⟨o,es,ep,ho,hd,_⟩:=hns; rw [q,he] at ho; cases ho; cases hd
  have s0e: ∀b o,s₀.heap.get? b=some o→b≠e∧∀T,t= .ref T→b≠T:=fun b o ho=>⟨fun q=>(by rw [q,F.new] at ho; cases ho),fun T q q'=>(by rw [q',tn T q] at ho; cases ho)⟩
  have tf: ∀T,t= .ref T→∀o,s.heap.get? T=some o→∃vs,o.data= .fields vs:=fun T e o ho=>by
   rcases ht with ⟨ht,_⟩ | ⟨T',oT',ts',e',hn,_,g,gd,_⟩
   ·rw [ht] at e; cases e
   ·rw [e'] at e; cases e; rw [g] at ho; cases ho; exact ⟨_,gd⟩
  refine hQ _ ⟨?_,fun b o hb ho=> ?_,fun b o ho=> ?_,F.new,a, .ref T,dx,m,tk,he',hdx, ?_,hm, .inr ⟨T,oT,ts,rfl, ?_,hTe,hT',hd',h3'⟩⟩ fun b o ho hnf=> ?_
  ·obtain ⟨h',t',e⟩:=F.same; rw [e]; exact ⟨_,_,rfl⟩
  ·have:=s0e b o ho
   refine kp b o this.1 (fun q=> ?_) (k2 b o this.1 this.2 (F.keep b o hb ho))
   rcases hsub b q with q | q
   ·exact hb q
   ·rw [q] at ho; cases ho
  ·have:=s0e b o ho
   obtain ⟨sl,h1⟩:=F.slots b o ho
   obtain ⟨sl',h2⟩:=ks b _ this.1 (k2 b _ this.1 this.2 h1)
   exact ⟨sl',h2⟩
  ·obtain ⟨o,es,ep,ho,hd,r⟩:=hns
   have h1:h₂.get? dx=some o:=k2 dx o dne (fun T q q'=>by obtain ⟨vs,hv⟩:=tf T q o (q'▸ho); rw [hd] at hv; cases hv) ho
   obtain ⟨sl,h2⟩:=ks dx o dne h1
   exact ⟨_,es,ep,h2,hd,r⟩
  ·have:=kn' T hT
   cases q:s₀.heap.get? T with
   | none=>rfl
   | some o=>obtain ⟨sl,h1⟩:=F.slots T o q; rw [this] at h1; cases h1
  ·have hbe:b≠e:=fun q=>by rw [q,he] at ho; cases ho; exact hnf _ rfl
   obtain ⟨sl,h2⟩:=ks b o hbe (k2 b o hbe (fun T q q'=>by obtain ⟨vs,hv⟩:=tf T q o (q'▸ho); exact hnf _ hv) ho)
   exact ⟨sl,h2⟩
 unfold noteFrame
 simp only [hf]
 refine wpAny_bind (wpAny_field he rfl (x:=t) rfl ?_)
 rcases id ht with ⟨rfl,_⟩ | ⟨T,oT,ts,rfl,hn,hTe,hT,hdT,h3⟩
 ·rw [if_neg (by decide)]
  exact zDZ hfr hl hf he rfl (by simp) fun h' N=>fin s.heap h' (fun V V V V e=>e) he (fun V e=>e) (fun V e=>e) N
 ·rw [if_pos (show (Value.ref T != Value.none)=true from by simp)]
  refine wpAny_bind (wpAny_field hT hdT h3 ?_)
  rw [if_neg (show ¬((Value.none==rawInt L)=true) from by simp [rawInt])]
  refine wpAny_bind (wpAny_setField hT hdT (Array.getElem?_eq_some_iff.mp h3).1 ?_)
  have other: ∀b,b≠T→(s.heap.update T (Obj.mapFields (·.setIfInBounds 3 Value.none))).get? b=s.heap.get? b:=fun b hb=>Heap.get?_update_other _ _ (Ne.symm hb)
  refine zDZ hfr (hl.of_keeps fun b o hb hnf=>⟨o,(other b fun q=>by rw [q,hT] at hb; cases hb; exact hnf ts hdT).trans hb,rfl⟩) hf ((other e (Ne.symm hTe)).trans he) rfl (by simp) fun h' N=>fin _ h' (fun b o hb hbT ho=>(other b (hbT T rfl)).trans ho) ((other e (Ne.symm hTe)).trans he) (fun b hb=> ?_) (fun b hb=> ?_) N
  ·have:b≠T:=fun q=>by rw [q,hT] at hb; cases hb
   exact (other b this).trans hb
  ·by_cases q:b=T
   ·rw [q] at hb
    have:=Heap.get?_update_self (Obj.mapFields (·.setIfInBounds 3 Value.none)) hT (Obj.isFreed_of_fields (Obj.data_mapFields hdT _))
    rw [this] at hb; cases hb
   ·rw [other b q] at hb; exact hb
theorem zBD {l:List Env} {e:Addr} {mk:Value} {Q:Unit→Shared→Prop} (fl:Option Addr) (F:Fly l s₀ mk e s) (h0:mk≠ .none∨fl=none) (hQ: ∀s',Fly l s₀ (fl.elim .none fun f=>rawInt f) e s'→(∀b o,s.heap.get? b=some o→(∀vs,o.data≠ .fields vs)→s'.heap.get? b=some o)→Q () s'):wpAny M A (setFlight (.ref e) fl) Q E s:=by
 obtain ⟨a,t,dx,m,tk,he,hdx,hns,hm,ht⟩:=id F.ex
 unfold setFlight
 refine wpAny_bind (wpAny_field he rfl (x:=t) rfl ?_)
 rcases ht with ⟨rfl,hmk⟩ | ⟨T,oT,ts,rfl,hn,hTe,hT,hdT,h3⟩
 ·rw [if_neg (by decide)]
  have:fl=none:=h0.elim (fun h=>absurd hmk h) id
  subst this; subst hmk
  exact wpAny_pure (hQ _ F fun V V h V=>h)
 ·rw [if_pos (show (Value.ref T != Value.none)=true from by simp)]
  refine wpAny_setField hT hdT (Array.getElem?_eq_some_iff.mp h3).1 (hQ _ ?_ fun b o ho hnf=> ?_)
  ·have hd':=Obj.data_mapFields hdT (·.setIfInBounds 3 (fl.elim Value.none fun f=>rawInt f))
   have hT':=Heap.get?_update_self (Obj.mapFields (·.setIfInBounds 3 (fl.elim Value.none fun f=>rawInt f))) hT (Obj.isFreed_of_fields hd')
   have other: ∀b,b≠T→(s.heap.update T (Obj.mapFields (·.setIfInBounds 3 (fl.elim Value.none fun f=>rawInt f)))).get? b=s.heap.get? b:=fun b hb=>Heap.get?_update_other _ _ (Ne.symm hb)
   have old: ∀b o,s₀.heap.get? b=some o→b≠T:=fun b o ho q=>by rw [q,hn] at ho; cases ho
   refine ⟨?_,fun b o hb ho=>(other b (old b o ho)).trans (F.keep b o hb ho),fun b o ho=> ?_,F.new,a, .ref T,dx,m,tk,(other e (Ne.symm hTe)).trans he,hdx, ?_,hm, .inr ⟨T,_,_,rfl,hn,hTe,hT',hd', ?_⟩⟩
   ·obtain ⟨h',t',e'⟩:=F.same
    rw [e']
    exact ⟨_,_,rfl⟩
   ·obtain ⟨sl,h1⟩:=F.slots b o ho
    exact ⟨sl,(other b (old b o ho)).trans h1⟩
   ·obtain ⟨o,es,ep,ho,hd,r⟩:=hns
    exact ⟨o,es,ep,(other dx fun q=>by rw [q,hT] at ho; cases ho; rw [hdT] at hd; cases hd).trans ho,hd,r⟩
   ·have:=(Array.getElem?_eq_some_iff.mp h3).1
    simp [this]
  ·exact (Heap.get?_update_other _ _ fun q=>by rw [←q,hT] at ho; cases ho; exact hnf _ hdT).trans ho
theorem zGm {env:Env} {l:List Env} {L e:Addr} {Q:Unit→Shared→Prop} (hf:env.frame=some L) (F:Fly l s₀ (rawInt L) e s) (hQ:Q () s):wpAny M A (noteFrame (.ref e) env) Q E s:=by
 obtain ⟨a,t,dx,m,tk,he,hdx,hns,hm,ht⟩:=F.ex
 rcases ht with ⟨_,h⟩ | ⟨T,oT,ts,rfl,hn,hTe,hT,hdT,h3⟩
 ·cases h
 ·exact wpAny_noteFrame_inFlight hf he rfl rfl hT hdT h3 hQ
theorem zGl {env:Env} {outer l:List Env} {L e:Addr} {Q:Unit→Shared→Prop} (hfr:A.frames=some (env :: outer)) (hl:s.heap.FunFrames zBR (env :: outer)) (hf:env.frame=some L) (F:Fly l s₀ .none e s)
  (hsub: ∀b∈frs (env :: outer),b∈frs l∨s₀.heap.get? b=none) (hQ: ∀s',Fly l s₀ .none e s'→Q () s'):wpAny M A («leaving» env (.ref e)) Q E s:=by
 unfold «leaving»
 exact wpAny_bind (zDr hfr hl hf F hsub fun s' F' V=>zBD none F' (.inr rfl) fun s'' F'' V=>hQ s'' F'')
end
set_option tactic.hygienic true in
theorem Fly.back {env:Env} {l:List Env} {s₀ s₁ s:Shared} {e:Addr} {mk:Value} (F:Fly (env :: l) s₁ mk e s) (k:Keeps s₀ s₁) (h: ∀L,env.frame=some L→s₀.heap.get? L=none):Fly l s₀ mk e s where
 same:=by
  obtain ⟨h',t',e⟩:=F.same; obtain ⟨h'',t'',e',_⟩:=k
  subst e'; exact ⟨_,_,e⟩
 keep:=fun b o hb ho=>F.keep b o (fun q=>by
  unfold frs at q
  rw [List.filterMap_cons] at q
  split at q
  ·exact hb q
  ·rename_i L hL
   rcases List.mem_cons.mp q with q | q
   ·rw [q,h L hL] at ho; cases ho
   ·exact hb q) (Keeps.get k ho)
 slots:=fun b o ho=>F.slots b o (Keeps.get k ho)
 new:=by
  cases q:s₀.heap.get? e with
  | none=>rfl
  | some o=>have:=Keeps.get k q; rw [F.new] at this; cases this
 ex:=by
  have key: ∀a,s₁.heap.get? a=none→s₀.heap.get? a=none:=fun a h=>by
   cases q:s₀.heap.get? a with
   | none=>rfl
   | some o=>have:=Keeps.get k q; rw [h] at this; cases this
  obtain ⟨a,t,dx,m,tk,he,hdx,hns,hm,ht⟩:=F.ex
  exact ⟨a,t,dx,m,tk,he,key _ hdx,hns,hm,ht.imp id fun ⟨T,oT,ts,e,hn,r⟩=>⟨T,oT,ts,e,key _ hn,r⟩⟩
section
variable {M:Model} {A:Around} {E:Value→Shared→Prop} {s:Shared} {env:Env}
theorem zGS {l:List Env} {s₀:Shared} {x:Sem Value} {Q:Flow→Shared→Prop} (h:wpAny M A x (fun v s₁=>∃e,v= .ref e∧s₁.heap.get? 31=some zCG∧Fly l s₀ .none e s₁∧(A.handled=none∨A.handled=some (.ref e))∧∀s₂,Fly l s₀ .none e s₂→(∀b o,s₁.heap.get? b=some o→(∀vs,o.data≠ .fields vs)→s₂.heap.get? b=some o)→E (.ref e) s₂) E s):
  wpAny M A (raiseStmt env (some x) none) Q E s:=by
 have hcB:(Value.ref 31 :: zOq).contains (.type "BaseException")=true:=by decide +kernel
 unfold raiseStmt
 refine wpAny_bind (wpAny_mono h (fun v s₁ h₁=> ?_) fun V V x=>x)
 obtain ⟨e,rfl,hC,F,hh,hE⟩:=h₁
 have fin: ∀{s₂:Shared} {Q:Flow→Shared→Prop},Fly l s₀ .none e s₂→(∀b o,s₁.heap.get? b=some o→(∀vs,o.data≠ .fields vs)→s₂.heap.get? b=some o)→wpAny M A (raiseNew (.ref e):Sem Flow) Q E s₂:=fun F₂ N₂=>by
  rcases hh with hh | hh
  ·exact wpAny_raiseNew_none hh (hE _ F₂ N₂)
  ·unfold raiseNew
   refine wpAny_bind (wpAny_handled ?_)
   rw [hh]
   dsimp only
   rw [if_neg (by simp)]
   exact wpAny_bind (wpAny_pure (wpAny_throw (hE _ F₂ N₂)))
 obtain ⟨a,t,dx,m,tk,he,hdx,hns,hm,ht⟩:=id F.ex
 obtain ⟨hp,g,d,tok,os⟩:=s₁
 rcases ht with ⟨rfl,_⟩ | ⟨T,oT,ts,rfl,hn,hTe,hT,hdT,h3⟩
 ·repeat (first | with_reducible refine wpAny_loadPart_at he ?_ | with_reducible refine wpAny_loadPart_at hC ?_ | (with_reducible refine wpAny_isSubtype_exc hC ?_; rw [hcB]) | wp_step)
  exact fin F fun V V q V=>q
 ·repeat (first | with_reducible refine wpAny_loadPart_at he ?_ | with_reducible refine wpAny_loadPart_at hC ?_ | (with_reducible refine wpAny_isSubtype_exc hC ?_; rw [hcB]) | wp_step)
  rw [hdT]
  dsimp only
  rw [if_pos (Array.getElem?_eq_some_iff.mp h3).1]
  refine wpAny_update hT (fin ?_ fun b o ho hnf=>(Heap.get?_update_other _ _ fun q=>by rw [←q] at ho; exact hnf ts (by rw [show o=oT from Option.some.inj (ho.symm.trans hT)]; exact hdT)).trans ho)
  have hd':(oT.mapFields (·.setIfInBounds 3 ((none:Option Addr).elim Value.none fun f=>rawInt f))).data= .fields (ts.setIfInBounds 3 .none):=Obj.data_mapFields hdT _
  have hT':=Heap.get?_update_self (Obj.mapFields (·.setIfInBounds 3 ((none:Option Addr).elim Value.none fun f=>rawInt f))) hT (Obj.isFreed_of_fields hd')
  have other: ∀b,b≠T→(hp.update T (Obj.mapFields (·.setIfInBounds 3 ((none:Option Addr).elim Value.none fun f=>rawInt f)))).get? b=hp.get? b:=fun b hb=>Heap.get?_update_other _ _ (Ne.symm hb)
  have old: ∀b o,s₀.heap.get? b=some o→b≠T:=fun b o ho q=>by rw [q,hn] at ho; cases ho
  refine ⟨?_,fun b o hb ho=>(other b (old b o ho)).trans (F.keep b o hb ho),fun b o ho=> ?_,F.new,a, .ref T,dx,m,tk,(other e (Ne.symm hTe)).trans he,hdx, ?_,hm, .inr ⟨T,_,_,rfl,hn,hTe,hT',hd', ?_⟩⟩
  ·obtain ⟨h',t',e'⟩:=F.same
   cases e'
   exact ⟨_,_,rfl⟩
  ·obtain ⟨sl,h1⟩:=F.slots b o ho
   exact ⟨sl,(other b (old b o ho)).trans h1⟩
  ·obtain ⟨o,es,ep,ho,hd,r⟩:=hns
   exact ⟨o,es,ep,(other dx fun q=>by rw [q,hT] at ho; cases ho; rw [hdT] at hd; cases hd).trans ho,hd,r⟩
  ·have:=(Array.getElem?_eq_some_iff.mp h3).1
   simp [this]
end
section
variable {prog:Program} {w:World} {A:Around} {E:Value→Shared→Prop} {s:Shared} {env:Env}
noncomputable abbrev zNO:Stmt:= .Raise (some (.Call (.Name "CasFail" ⟨1049,18,1049,25⟩) [.Constant (.str "limit") 0 ⟨1049,26,1049,33⟩, .BinOp (.Constant (.str "a sum whose certificate has a degree above ") 0 ⟨1049,35,1049,80⟩) .Add (.Call (.Name "str" ⟨1049,83,1049,86⟩) [.Name "MOST_DEGREE" ⟨1049,87,1049,98⟩] [] ⟨1049,83,1049,99⟩) ⟨1049,35,1049,99⟩] [] ⟨1049,18,1049,100⟩)) none ⟨1049,12,1049,100⟩
theorem most (w:World): ∃t,mgP w.params "MOST_DEGREE"=some (.int 200 t):=by
 obtain ⟨v,h1,h2⟩:=(zBO w).con 283 (.int 200) (by kernel_rfl)
 have h2:RdW (fun V=>False) (GL w.params) v (.int 200):=h2.elim id fun h=>h.elim
 obtain ⟨t,rfl⟩:=h2.intInv
 exact ⟨t,h1⟩
set_option tactic.hygienic true in
theorem zOg (P:Params): ∃oI,(GL P).get? 28=some oI∧oI.cls= .type "function":=by
 obtain ⟨oI,hoI,hd⟩:=zHZ (Prod.mk.inj (zGi P)).1
 refine ⟨oI,zFh hoI (fun q=>by rw [q] at hd; cases hd), ?_⟩
 have h:=zMb P
 generalize (H1 P).get? 28=x at h hoI
 subst hoI
 dsimp only at h
 split at h
 ·rename_i n hn; rw [hn,of_decide_eq_true h]
 ·cases h
theorem zHn (h:Heap) (rest:List Value):(zCH h rest).get? (h.objs.size + 1)=some (zKi (.ref h.objs.size) .none .none .none (.bool false) .none):=by heap_get
theorem zJv {l:List Env} {Q:Flow→Shared→Prop} (G:zHB w.params s) (hd:A.depth≤900) (hk:env.scope.kind= .function) (hg:env.globals=mainGlobals∧env.builtins=builtinsNs)
  (k1:env.kindOf "CasFail"=some .globalImplicit) (k2:env.kindOf "str"=some .globalImplicit) (k3:env.kindOf "MOST_DEGREE"=some .globalImplicit) (hh:A.handled=none) (hE: ∀e s',Fly l s .none e s'→E (.ref e) s'):wpAny (model prog w) A (exec zNO env) Q E s:=by
 obtain ⟨x1,x2⟩:=Prod.mk.inj (zEX w.params)
 obtain ⟨x2,x3⟩:=Prod.mk.inj x2
 obtain ⟨x3,x4⟩:=Prod.mk.inj x3
 obtain ⟨x4,x5⟩:=Prod.mk.inj x4
 obtain ⟨tm,hm⟩:=most w
 have d1:((("CasFail":Str))==("__debug__":Str))=false:=by decide +kernel
 have d2:((("str":Str))==("__debug__":Str))=false:=by decide +kernel
 have d3:((("MOST_DEGREE":Str))==("__debug__":Str))=false:=by decide +kernel
 obtain ⟨c1,_⟩:=Prod.mk.inj (zEd w.params)
 have l1:(Str.ofString "a sum whose certificate has a degree above ").length=43:=by decide +kernel
 have l2:(Str.ofString (toString (200:Int))).length=3:=by decide +kernel
 have l3:(Str.ofString "limit").length=5:=by decide +kernel
 obtain ⟨oI,hoI,hcI⟩:=zOg w.params
 have n30:=Ns.gl (Heap.Ns.of_isNs (zKr w.params))
 obtain ⟨h,g,d,t,os⟩:=s
 rw [arm_exec_Raise]
 refine wpAny_bind (wpAny_standAt (zGS (l:=l) (s₀:=⟨h,g,d,t,os⟩) ?_))
 refine wpAny_bind (wpAny_mono (Q:=fun v s₁=>∃e,v= .ref e∧s₁.heap.get? 31=some zCG∧Fly l ⟨h,g,d,t,os⟩ .none e s₁∧(A.handled=none∨A.handled=some (.ref e))∧∀s₂,Fly l ⟨h,g,d,t,os⟩ .none e s₂→(∀b o,s₁.heap.get? b=some o→(∀vs,o.data≠ .fields vs)→s₂.heap.get? b=some o)→E (.ref e) s₂) (E:=E) (wpAny_Call_Name_kw (zIn G hk hg k1 x3 ?_ d1)) (fun v s₃ h₃=>wpAny_bind (wpAny_standAt (wpAny_pure h₃))) fun V V x=>x)
 show wpAny _ _ (callWith _ (.ref 31) [] ((false,eval (.Constant (.str "limit") 0 ⟨1049,26,1049,33⟩) env) :: (false,eval (.BinOp (.Constant (.str "a sum whose certificate has a degree above ") 0 ⟨1049,35,1049,80⟩) .Add (.Call (.Name "str" ⟨1049,83,1049,86⟩) [.Name "MOST_DEGREE" ⟨1049,87,1049,98⟩] [] ⟨1049,83,1049,99⟩) ⟨1049,35,1049,99⟩) env) :: []) []) _ _ _
 unfold callWith
 refine wpAny_bind (wpAny_holding (wpAny_mono (Calls.evalArgs_plain (Q:=fun a s₂=>a.kw=[]∧∃x tx ty,a.pos=[.str "limit" ty, .str x tx]∧x.length≤1000∧∃tk,s₂=⟨h,g,d,tk,os⟩) (Calls.spliced_cons ?_)) (fun a s₂ h₂=> ?_) fun V V x=>x))
 ·refine Calls.Constant_str (Calls.spliced_cons (wpAny_BinOp (Calls.Constant_str ?_)))
  refine wpAny_Call_Name_kw (zOO G hk hg k2 x4 x5 ?_ d2)
  refine callWith_type1 (Calls.spliced_cons (zIn G hk hg k3 hm (Calls.spliced_nil ?_) d3)) rfl rfl
  refine P.str_of_int (by decide +kernel) ?_
  refine add_str (fun t' tk=>Calls.spliced_nil ⟨rfl,_,_,_,rfl, ?_,_,rfl⟩) (by rw [sizeLine_eq,l1,l2]; lia)
  rw [Str.length_append,l1,l2]; lia
 ·obtain ⟨hkw,x,tx,ty,hpos,hx,tk,rfl⟩:=h₂
  obtain ⟨ap,ak⟩:=a
  cases hkw; cases hpos
  refine wpAny_bind (wpAny_standAt ?_)
  refine wpAny_bind (wpAny_keeperOf_exc (G _ _ (zCF _)) ?_)
  refine wpAny_bind (zMw (G _ _ (zCF _)) (n30.keeps G) c1 (G _ _ hoI) hcI (by simp) ?_)
  have key: ∀(b:Addr) (o:Obj),h.get? b=some o→(zCH h [.str "limit" ty, .str x tx]).get? b=some o:=fun b o e=>Heap.get?_push_of_some _ (Heap.get?_push_of_some _ e)
  have hen:h.get? (h.objs.size + 1)=none:=Heap.get?_none_of_le (by lia)
  refine zMv (a:=h.objs.size) (k:="limit") (tk:=ty) (fun b o e=>key b o (G b o e)) (by show A.depth + 1 < 1000; lia) (zHn h _) ?_ (by rw [l3]; lia) hx fun s' b dx m same keep he hdx hns hmk=>⟨rfl, ?_⟩
  ·cases q:(GL w.params).get? (h.objs.size + 1) with
   | none=>rfl
   | some o=>have:=G _ _ q; rw [hen] at this; cases this
  obtain ⟨h',t',rfl⟩:=same
  refine wpAny_bind (wpAny_holding (wpAny_point (wpAny_pure ?_)))
  have F:Fly l ⟨h,g,d,t,os⟩ .none (h.objs.size + 1) ⟨h',g,d,t',os⟩:=by
   refine ⟨⟨_,_,rfl⟩,fun b o V e=> ?_,fun b o e=>⟨o.slots, ?_⟩,hen,b, .none,dx,m,ty,he, ?_,hns,hmk, .inl ⟨rfl,rfl⟩⟩
   ·exact keep b o (fun q=>by rw [q,hen] at e; cases e) (key b o e)
   ·exact keep b o (fun q=>by rw [q,hen] at e; cases e) (key b o e)
   ·cases q:h.get? dx with
    | none=>rfl
    | some o=>exact absurd ((key _ _ q).symm.trans hdx) (by simp)
  refine ⟨_,rfl, ?_,F, .inl hh,fun s₂ F₂ V=>hE _ _ F₂⟩
  exact keep 31 _ (fun q=>by have:=G _ _ (zCF _); rw [q,hen] at this; cases this) (key _ _ (G _ _ (zCF _)))
end
section
variable {prog:Program} {w:World} {gcx:Nat→Option D} {call:Nat→List D→Option D} {rc:Nat}
noncomputable abbrev GG (w:World):Heap:=GL w.params
theorem FunFrames.kb {O:Addr→Prop} {s s':Shared} {l:List Env} (hl:s.heap.FunFrames zBR l) (k:zAC O s s') (h: ∀b∈frs l,¬O b):s'.heap.FunFrames zBR l:=by
 induction l with
 | nil=>trivial
 | cons env rest ih=>
  obtain ⟨hk,⟨L,o,hf,hn,ho,hd⟩,hr⟩:=hl
  have hm:L∈frs (env :: rest):=by unfold frs; rw [List.filterMap_cons,hf]; exact List.mem_cons_self
  refine ⟨hk,⟨L,o,hf,hn,k.get (h L hm) ho,hd⟩,ih hr fun b hb=>h b ?_⟩
  unfold frs; rw [List.filterMap_cons,hf]; exact List.mem_cons_of_mem _ hb
def zHA (prog:Program) (w:World) (rc f:Nat) (ds:List D):Prop:=ds≠[]∧∃a o fd,mgP w.params (nm f)=some (.ref a)∧(GG w).get? a=some o∧o.data= .func fd∧
  ∀(A:Around) (P:Addr→Prop) (l:List Env) (s:Shared) (vs:List Value) (Q:Value→Shared→Prop) (E:Value→Shared→Prop),(∀a o,(GG w).get? a=some o→s.heap.get? a=some o∧¬P a)→(∀a,P a→∃o,s.heap.get? a=some o)→
   A.handled=none→A.frames=some l→s.heap.FunFrames zBR l→A.depth + rc≤900→A.units + 16 * rc + 200≤9800→zAK P s.heap vs ds→
   (∀e s',Fly l s .none e s'→E (.ref e) s')→wpAny (model prog w) A (PySem.call (.ref a) vs) Q E s
def Lv (env:Env) (l:List Env) (O:Addr→Prop) (s:Shared) (E:Value→Shared→Prop):Prop:=∀e s₂ s',zAC O s s₂→(∃m,s₂.heap.Ns env.locals m)→Fly (env :: l) s₂ .none e s'→E (.ref e) s'
theorem FC.frs {A:Around} {env:Env} {Z X O:Addr→Prop} {fr:Frm} {s:Shared} (F:FC w (GG w) gaP A env Z X O none fr s rc): ∃m,s.heap.Ns env.locals m:=let ⟨m,h,_⟩:=F.fw.names; ⟨m,h⟩
theorem fn_x {f:Nat} {fn:Fn} {ds:List D} {fr:Frm} (at_:zHC (GG w) (mgP w.params) gaP f fn) (ck:FnS fn=true) (h1:args fn.params ds=some fr) (hne:ds≠[])
  (body: ∀(A:Around) (env:Env) (P O:Addr→Prop) (l:List Env) (s:Shared) (E:Value→Shared→Prop),FC w (GG w) gaP A env P (fun V=>False) O none fr s rc→env.scope=fn.sc→A.handled=none→A.frames=some (env :: l)→(∀s₂,zAC O s s₂→(∃m,s₂.heap.Ns env.locals m)→s₂.heap.FunFrames zBR (env :: l))→
   Lv env l O s (fun e s'=>wpAny (model prog w) A («leaving» env e) (fun V s''=>E e s'') (fun e' s''=>E e' s'') s')→
   wpAny (model prog w) A (execs (zCW nm fn.body) env) (fun V V=>False) (fun e s'=>wpAny (model prog w) A («leaving» env e) (fun V s''=>E e s'') (fun e' s''=>E e' s'') s') s):zHA prog w (rc + 1) f ds:=by
 obtain ⟨hlen,hfr⟩:=zCK h1
 obtain ⟨a,o,fd,e1,e2,e3,enter⟩:=zBo (rc:=rc) (prog:=prog) (zBO w) at_ ck
 refine ⟨hne,a,o,fd,e1,e2,e3, ?_⟩
 intro A P l s vs Q E glob live hand hfs hl dep un r hE
 refine enter A P s vs Q E glob live (.inl hand) (fun b hb=> ?_) dep un (by rw [r.length,hlen]) fun env s₁ O K hnew hsc hgl ⟨hf,_⟩ _ hFC=> ?_
 ·unfold zAQ at hb; rw [hand] at hb; cases hb
 have F:=hFC fr fun x sl e=>by
  rcases hfr x sl e with ⟨d',e1,hm⟩ | e
  ·obtain ⟨v,hv,rv⟩:=zDo r hm
   exact ⟨v,d',e1,hv,rv⟩
  ·cases e
 have hl1: ∀s₂,zAC O s₁ s₂→(∃m,s₂.heap.Ns env.locals m)→s₂.heap.FunFrames zBR (env :: l):=fun s₂ k ⟨m,hns⟩=>
  Heap.FunFrames.cons (by rw [F.fw.kind]; simp) hf hns rfl ((hl.of_keeps fun b o ho V=>⟨o,Keeps.get (zCA K k hnew) ho,rfl⟩))
 refine wpAny_mono (body (A.deeper env) env P O l s₁ E F hsc hand (Around.frames_deeper hfs) hl1 fun e s₂ s' k ⟨m,hns⟩ fl=> ?_) (fun V V q=>q.elim) fun V V q=>q
 have KK:=zCA K k hnew
 refine zGl (Around.frames_deeper hfs) (FunFrames.slots fl.slots (hl1 s₂ k ⟨m,hns⟩)) hf fl (fun b hb=> .inl hb) fun s'' fl'=>hE _ _ (fl'.back KK fun L hL=> ?_)
 rw [hf] at hL; cases hL
 exact hnew _ F.fw.loc
variable {A:Around} {env:Env} {Z X O:Addr→Prop} {fr fr':Frm} {s:Shared} {l:List Env} {E:Value→Shared→Prop}
theorem zDU {f:Nat} {fp p:Pos} {la:Mine.E} {Q:Value→Shared→Prop} {ds:List D} (sl:SL prog w (GG w) gaP gc call rc la) (F:FC w (GG w) gaP A env Z X O none fr s rc) (hh:A.handled=none) (hfr:A.frames=some l) (hl:s.heap.FunFrames zBR l) (hk:(Ck (.call f fp la p)).k env.scope=true)
  (h1:(Ev gc call la).l fr=some ds) (x:zHA prog w rc f ds) (hE: ∀e s₁ s',Keeps s s₁→Fly l s₁ .none e s'→E (.ref e) s'):wpAny (model prog w) A (eval (up nm (.call f fp la p)) env) Q E s:=by
 obtain ⟨k1,k2⟩:=zAN (show zAA (zDP (env.scope.names.lookup (nm f))) ((Ck la).k env.scope) false=true from hk)
 obtain ⟨hne,a,o,fd,e1,e2,e3,sp⟩:=x
 have cx:=F.cx
 refine wpAny_Call_Name_kw (zBf (zBO w) cx k1 (zBT f) e1 ?_)
 show wpAny _ A (callWith p (.ref a) [] (backTo p (starEach (ups nm la) env)) []) Q E s
 cases la with
 | cons x y=>
  have hsp:=sl.l p A env _ fr s (fun vs s₁=>s₁.heap.get? a=some o∧wpAny (model prog w) A (PySem.call (.ref a) vs) Q E s₁) E ds cx k2 h1 fun vs s₁ q1 r1=>
   ⟨Keeps.get q1 (cx.ok.glob _ _ e2).1,sp A _ l s₁ vs Q E (cx.keeps q1).ok.glob (cx.keeps q1).ok.live hh hfr (hl.of_keeps fun b o ho V=>⟨o,Keeps.get q1 ho,rfl⟩) F.dep F.un r1 fun e s' fl=>hE e s₁ s' q1 fl⟩
  obtain ⟨d1,h3,h4⟩:=zAB (show bnd ((Ev gc call x).v fr) (fun d=>bnd ((Ev gc call y).l fr) fun ds=>some (d :: ds))=some ds from h1)
  exact callWith_def e3 hsp (zAV (zAk h3))
 | nil=>exact absurd (Option.some.inj (show some []=some ds from h1)).symm hne
 | _=>cases h1
end
noncomputable def S.hd:S→S | .cons h _=>h | x=>x
noncomputable def S.tl:S→S | .cons _ t=>t | x=>x
noncomputable def S.e1:S→E | .asg t _ _ _ _=>t | .fr t _ _ _ _=>t | .iff t _ _ _=>t | _=> .nil
noncomputable def S.e2:S→E | .asg _ e _ _ _=>e | .fr _ i _ _ _=>i | .ret e _ _=>e | _=> .nil
noncomputable def S.b1:S→S | .fr _ _ b _ _=>b | .iff _ b _ _=>b | _=> .nil
noncomputable def E.la:E→E | .call _ _ l _=>l | .ite _ _ o _=>o | .cons a _=>a | _=> .nil
noncomputable def E.te:E→E | .ite t _ _ _=>t | _=> .nil
noncomputable def zIj {τ:Type} (f:Fl) (k:Frm→Option τ):Option τ:=Fl.rec (motive:=fun V=>Option τ) k (fun V=>none) (fun V=>none) f
theorem zAY {τ:Type} {f:Fl} {k:Frm→Option τ} {d:τ} (h:zIj f k=some d): ∃fr,f= .next fr∧k fr=some d:=by
 induction f with
 | next fr=>exact ⟨fr,rfl,h⟩
 | cont _=>cases h
 | ret _=>cases h
section
variable {prog:Program} {w:World} {call:Nat→List D→Option D} {rc:Nat}
variable {A:Around} {env:Env} {Z X O:Addr→Prop} {fr fr':Frm} {s:Shared} {l:List Env} {E:Value→Shared→Prop}
theorem go1 {gcx:Nat→Option D} {st:S} (h:SS prog w (GG w) gaP gcx call rc st) {rest:List Stmt} {Q:Flow→Shared→Prop} (F:FC w (GG w) gaP A env Z X O none fr s rc) (hk:Sk st env.scope=true) (h1:(Ex gcx call st).x fr=some (.next fr'))
  (hQ: ∀s' O',zAC O s s'→zCX O O' s→FC w (GG w) gaP A env Z X O' none fr' s' rc→wpAny (model prog w) A (execs rest env) Q E s'):wpAny (model prog w) A (execs (upS nm st :: rest) env) Q E s:=
 wpAny_execs_cons (h A env Z X O fr s _ E _ F hk h1 fun fw s' O' k n fl=>by
  obtain ⟨rfl,F'⟩:=fl
  exact hQ s' O' k n F')
theorem zKe {t i:Mine.E} {b:S} {p:Pos} {d:D} {items:List D} {fr2:Frm} {Q:Flow→Shared→Prop} (st:SN prog w (GG w) gaP gc call t) (si:SI prog w (GG w) gaP gc call rc i) (hme:zIJ i=false) (hne:zEO i=false) (hr: ∀x,i≠ .raw x)
  (F:FC w (GG w) gaP A env Z X O none fr s rc) (k1:(Ck t).k env.scope=true) (k2:(Ck i).k env.scope=true) (h1:(Ev gc call i).i fr=some (d :: items)) (h2:(Ev gc call t).n d fr=some fr2)
  (body: ∀X' s3,zAC O s s3→FC w (GG w) gaP A env Z X' O none fr2 s3 rc→wpAny (model prog w) A (execs (zCW nm b) env) (fun V V=>False) (notedBy (model prog w) A env fun e s'=>cameBackBy (model prog w) A env E e s') s3):
  wpAny (model prog w) A (exec (upS nm (.fr t i b [] p)) env) Q E s:=by
 refine wpAny_For ?_ (zEU hr env)
 refine si A env _ fr s _ E (d :: items) (up nm t) F.cx k2 (fun h=>by rw [hne] at h; cases h) h1 fun it s' m=> ?_
 obtain ⟨I,wr,rd,St,rfl,k',hnew,hrdOk,W,st0⟩:=m
 have hlive: ∀a,wr a→∃o,s'.heap.get? a=some o:=fun a ha=>(W.live _ _ _ st0 a ha).2
 have F3:=zHe F k' hnew hlive
 have nP: ∀a,wr a→¬PP Z X O a:=fun a h q=>by obtain ⟨o,ho⟩:=F.fw.live a q; rw [hnew a h] at ho; cases ho
 have h0:St 0 (PP Z (fun a=>X a∨wr a) O) s'.heap:=by
  refine W.frame 0 _ _ s'.heap s'.heap (fun V=>False) (fun V h=>h.elim) (fun V h=>h.elim) (fun V h=>h.elim) (fun a q=> .inr (.inl (.inr q))) (fun a o ho q=> ?_) st0 fun V V V e=>e
  rcases q with q | (q | q) | q
  ·exact .inl (.inl q)
  ·exact .inl (.inr (.inl q))
  ·exact .inr q
  ·exact .inl (.inr (.inr q))
 refine codeAny_forLoop_any (fun n s1=>s1=s') (fun n s1 e=> ?_) 0 rfl
 subst e
 refine W.nextv (i:=0) (d:=d) rfl F3.fw.live h0 (fun v s₁ h₁=>h₁) fun v s2 k rv st2=> ?_
 have F2:FC w (GG w) gaP A env Z (fun a=>X a∨wr a) O none fr s2 rc:=F3.next (k.mono fun a V V h=> .inr h) (fun a h=>h) fun a h=>by
  by_cases hw:wr a
  ·exact (W.live _ _ _ st2 a hw).2
  ·obtain ⟨o,ho⟩:=F3.fw.live a (.inr (.inl h)); exact ⟨o,k.get hw ho⟩
 refine st A env Z (fun a=>X a∨wr a) O none fr fr2 s2 rc _ _ v d F2 k1 (fun V V=>trivial) h2 rv fun s3 k3 F3=> ?_
 refine wpAny_mono (body _ s3 ?_ F3) (fun V V q=>q.elim) fun V V q=>q
 refine ((zAC.of (O:=O) k').trans k fun a o ho q=> ?_).trans k3 fun V V V q=>q
 rw [hnew a q] at ho; cases ho
theorem zIg {env:Env} {e:Addr} {s:Shared} {Eo:Value→Shared→Prop} (h:wpAny (model prog w) A («leaving» env (.ref e)) (fun V s''=>Eo (.ref e) s'') (fun e' s''=>Eo e' s'') s):
  notedBy (model prog w) A env (fun e s'=>cameBackBy (model prog w) A env (fun e s'=>wpAny (model prog w) A («leaving» env e) (fun V s''=>Eo e s'') (fun e' s''=>Eo e' s'') s') e s') (.ref e) s:=
 wpAny_leaving_again (SameStack.refl A) h
end
noncomputable def S.p:S→Pos | .fr _ _ _ _ p=>p | .iff _ _ _ p=>p | .asg _ _ _ _ p=>p | _=>default
section
variable {prog:Program} {w:World} {call:Nat→List D→Option D} {rc:Nat}
noncomputable def zJz (call:Nat→List D→Option D) (ds:List D):Option Unit:=
 bnd (args [24,22] ds) fun fr=>bnd ((Ex gc call Fb285.hd).x fr) fun f1=>zIj f1 fun fr1=>bnd ((Ev gc call Fb285.tl.hd.e2).i fr1) fun items=>onL items none fun d V=>bnd ((Ev gc call Fb285.tl.hd.e1).n d fr1) fun fr2=>
  bnd ((Ex gc call Fb285.tl.hd.b1.hd).x fr2) fun f3=>zIj f3 fun fr3=>bnd ((Ev gc call Fb285.tl.hd.b1.tl.hd.e1).t fr3) fun c=>zAA c (some ()) none
theorem zHQ:zCW nm (Fn.mk [24,22] Fs285 Fb285).body=upS nm Fb285.hd :: upS nm (.fr Fb285.tl.hd.e1 Fb285.tl.hd.e2 Fb285.tl.hd.b1 [] Fb285.tl.hd.p) :: zCW nm Fb285.tl.tl:=by kernel_rfl
theorem zHP:zCW nm Fb285.tl.hd.b1=upS nm Fb285.tl.hd.b1.hd :: .If (up nm Fb285.tl.hd.b1.tl.hd.e1) [zNO] [] Fb285.tl.hd.b1.tl.hd.p :: zCW nm Fb285.tl.hd.b1.tl.tl:=by kernel_rfl
theorem zEf {xs:List Nat} {ds:List D} {fr:Frm} (h:args xs ds=some fr) (hx:xs≠[]):ds≠[]:=fun e=>by
 have:=(zCK h).1
 rw [e] at this
 exact hx (List.eq_nil_of_length_eq_zero this)
theorem zLj (hc:zAW prog w (GG w) (mgP w.params) call (rc + 1)) {ds:List D} (h:zJz call ds=some ()):zHA prog w (rc + 2) 285 ds:=by
 obtain ⟨fr,h1,h⟩:=zAB h
 obtain ⟨f1,h2,h⟩:=zAB h
 obtain ⟨fr1,rfl,h⟩:=zAY h
 obtain ⟨items,h3,h⟩:=zAB h
 induction items using List.casesOn with
 | nil=>cases h
 | cons d items=>
  obtain ⟨fr2,h4,h⟩:=zAB (show bnd ((Ev gc call Fb285.tl.hd.e1).n d fr1) _=some () from h)
  obtain ⟨f3,h5,h⟩:=zAB h
  obtain ⟨fr3,rfl,h⟩:=zAY h
  obtain ⟨c,h6,h⟩:=zAB h
  have ae:=zEo (rc:=rc + 1) (zBO w) hc zAj
  have as:=zGy (rc:=rc + 1) (zBO w) hc zAj (zGJ prog w rc)
  refine fn_x (zNe _).gl (by decide +kernel) h1 (zEf h1 (by simp)) fun A env P O l s E F hsc hh hfr V lv=> ?_
  have hsc:env.scope=Fs285:=hsc
  rw [zHQ]
  refine go1 (as _).1 F (by rw [hsc]; decide +kernel) h2 fun s1 O1 k1 n1 F1=> ?_
  refine wpAny_execs_cons (zKe (ae _).sn (ae _).si (by decide +kernel) (by decide +kernel) (fun x=>by show Fb285.tl.hd.e2≠_; unfold Fb285; rintro ⟨⟩) F1 (by rw [hsc]; decide +kernel) (by rw [hsc]; decide +kernel) h3 h4 fun X' s2 k2 F2=> ?_)
  rw [zHP]
  refine go1 (as _).1 F2 (by rw [hsc]; decide +kernel) h5 fun s3 O3 k3 n3 F3=> ?_
  refine wpAny_execs_cons (wpAny_If ((ae _).se.t A env _ fr3 s3 _ _ c F3.cx (by rw [hsc]; decide +kernel) h6 fun s4 k4=> ?_))
  induction c with
  | false=>cases h
  | true=>
   have F4:=F3.keeps k4
   rw [if_pos rfl]
   refine wpAny_execs_cons (zJv (l:=env :: l) (fun a o e=>(F4.fw.glob a o e).1) (by have:=F4.dep; lia) F4.fw.kind F4.gl (by unfold Env.kindOf; rw [hsc]; decide +kernel) (by unfold Env.kindOf; rw [hsc]; decide +kernel) (by unfold Env.kindOf; rw [hsc]; decide +kernel) hh fun e s' fl=> ?_)
   refine zIg (lv e s4 s' ?_ F4.frs fl)
   obtain ⟨k5,n5⟩:=zAs k1 n1 k2 (zCX.sub fun V h=>h)
   obtain ⟨k6,_⟩:=zAs k5 n5 k3 n3
   exact k6.trans (zAC.of (O:=O) k4) fun V V V h=>h
end
section
variable {prog:Program} {w:World} {call:Nat→List D→Option D} {rc:Nat}
variable {A:Around} {env:Env} {Z X O:Addr→Prop} {fr fr':Frm} {s:Shared} {l:List Env} {E:Value→Shared→Prop}
theorem zEe {t e:Mine.E} {p:Pos} {Q:Flow→Shared→Prop} (ht:(∃x p,t= .var x p)∨∃l k p,t= .tup l k p) (h4:swOk t e=true) (hl: ∀elt g tg sc p,e≠ .lco elt g tg sc p) (hd: ∀k v g tg sc p,e≠ .dco k v g tg sc p) (hr: ∀x,e≠ .raw x)
  (h:wpAny (model prog w) A (eval (up nm e) env) (fun V V=>False) E s):wpAny (model prog w) A (exec (.Assign [up nm t] (up nm e) p) env) Q E s:=
 zCU (zEB hl hd hr _ _ _) (zDV h4 (t_ok ht).1 hr (t_ok ht).2 env) (zCc t env (t_ok ht).1) (wpAny_mono h (fun V V q=>q.elim) fun V V q=>q)
noncomputable def zKa (call:Nat→List D→Option D) (ds:List D):Option Unit:=
 bnd (args [294] ds) fun fr=>bnd ((Ev gc call Fb296.hd.e2.la).l fr) fun as=>zBn as fun as=>zJz call as
theorem zHc:zCW nm (Fn.mk [294] Fs296 Fb296).body= .Assign [up nm Fb296.hd.e1] (up nm (.call 285 ⟨1085,14,1085,20⟩ Fb296.hd.e2.la ⟨1085,14,1085,40⟩)) Fb296.hd.p :: zCW nm Fb296.tl:=by kernel_rfl
theorem zMf (hc:zAW prog w (GG w) (mgP w.params) call (rc + 1)) {ds:List D} (h:zKa call ds=some ()):zHA prog w (rc + 3) 296 ds:=by
 obtain ⟨fr,h1,h⟩:=zAB h
 obtain ⟨as,h2,h⟩:=zAB h
 rw [zBN] at h
 have px:zHA prog w (rc + 2) 285 as:=zLj hc h
 have ae:=zEo (rc:=rc + 2) (zBO w) (zAn hc (by lia)) zAj
 refine fn_x (zNd _).gl (by decide +kernel) h1 (zEf h1 (by simp)) fun A env P O l s E F hsc hh hfr hl lv=> ?_
 have hsc:env.scope=Fs296:=hsc
 rw [zHc]
 refine wpAny_execs_cons (zEe (by unfold Fb296; exact .inr ⟨_,_,_,rfl⟩) (by decide +kernel) (by rintro _ _ _ _ _ ⟨⟩) (by rintro _ _ _ _ _ _ ⟨⟩) (by rintro _ ⟨⟩) ?_)
 exact zDU (ae _).sl F hh hfr (hl s (zAC.refl s) F.frs) (by rw [hsc]; decide +kernel) h2 px fun e s₁ s' k fl=>lv e s₁ s' (zAC.of k) (F.keeps k).frs fl
noncomputable def zHI (call:Nat→List D→Option D) (ds:List D):Option Unit:=
 bnd (args [88,38] ds) fun fr=>bnd ((Ex gc call Fb312.hd).x fr) fun f1=>zIj f1 fun fr1=>bnd ((Ex gc call Fb312.tl.hd).x fr1) fun f2=>zIj f2 fun fr2=>bnd ((Ex gc call Fb312.tl.tl.hd).x fr2) fun f3=>zIj f3 fun fr3=>
  bnd ((Ev gc call Fb312.tl.tl.tl.hd.e2.te).t fr3) fun c=>zAA c none (bnd ((Ev gc call Fb312.tl.tl.tl.hd.e2.la.la).l fr3) fun as=>zBn as fun as=>zKa call as)
theorem zHH:zCW nm (Fn.mk [88,38] Fs312 Fb312).body=upS nm Fb312.hd :: upS nm Fb312.tl.hd :: upS nm Fb312.tl.tl.hd ::
  .Assign [up nm Fb312.tl.tl.tl.hd.e1] (up nm (.ite Fb312.tl.tl.tl.hd.e2.te (.cst .none 0 ⟨1180,18,1180,22⟩) (.call 296 ⟨1180,45,1180,51⟩ Fb312.tl.tl.tl.hd.e2.la.la ⟨1180,45,1180,58⟩) ⟨1180,18,1180,58⟩)) Fb312.tl.tl.tl.hd.p :: zCW nm Fb312.tl.tl.tl.tl:=by kernel_rfl
theorem zLX (hc:zAW prog w (GG w) (mgP w.params) call (rc + 1)) {ds:List D} (h:zHI call ds=some ()):zHA prog w (rc + 4) 312 ds:=by
 obtain ⟨fr,h1,h⟩:=zAB h
 obtain ⟨f1,h2,h⟩:=zAB h
 obtain ⟨fr1,rfl,h⟩:=zAY h
 obtain ⟨f2,h3,h⟩:=zAB h
 obtain ⟨fr2,rfl,h⟩:=zAY h
 obtain ⟨f3,h4,h⟩:=zAB h
 obtain ⟨fr3,rfl,h⟩:=zAY h
 obtain ⟨c,h5,h⟩:=zAB h
 induction c with
 | true=>cases h
 | false=>
  obtain ⟨as,h6,h⟩:=zAB h
  rw [zBN] at h
  have px:zHA prog w (rc + 3) 296 as:=zMf hc h
  have ae:=zEo (rc:=rc + 3) (zBO w) (zAn hc (by lia)) zAj
  have as':=zGy (rc:=rc + 3) (zBO w) (zAn hc (by lia)) zAj (zGJ prog w _)
  refine fn_x (zNc _).gl (by decide +kernel) h1 (zEf h1 (by simp)) fun A env P O l s E F hsc hh hfr hl lv=> ?_
  have hsc:env.scope=Fs312:=hsc
  rw [zHH]
  refine go1 (as' _).1 F (by rw [hsc]; decide +kernel) h2 fun s1 O1 k1 n1 F1=> ?_
  refine go1 (as' _).1 F1 (by rw [hsc]; decide +kernel) h3 fun s2 O2 k2 n2 F2=> ?_
  refine go1 (as' _).1 F2 (by rw [hsc]; decide +kernel) h4 fun s3 O3 k3 n3 F3=> ?_
  refine wpAny_execs_cons (zEe (by unfold Fb312; exact .inl ⟨_,_,rfl⟩) (by decide +kernel) (by rintro _ _ _ _ _ ⟨⟩) (by rintro _ _ _ _ _ _ ⟨⟩) (by rintro _ ⟨⟩) ?_)
  refine wpAny_IfExp ((ae _).se.t A env _ fr3 s3 _ _ false F3.cx (by rw [hsc]; decide +kernel) h5 fun s4 k4=> ?_)
  obtain ⟨k5,n5⟩:=zAs k1 n1 k2 n2
  obtain ⟨k6,n6⟩:=zAs k5 n5 k3 n3
  have k7:zAC O s s4:=k6.trans (zAC.of (O:=O) k4) fun V V V h=>h
  have F4:=F3.keeps k4
  exact zDU (ae _).sl F4 hh hfr (hl s4 k7 F4.frs) (by rw [hsc]; decide +kernel) h6 px fun e s₁ s' k fl=>lv e s₁ s' (k7.trans (zAC.of (O:=O) k) fun V V V h=>h) (F4.keeps k).frs fl
end
section
open Builtin Builtin.ObjectAttr
section
variable {prog:Program} {w:World} {A:Around} {E:Value→Shared→Prop} {h:Heap} {g:Array GenState} {d:Drawn} {t:Nat} {os:OsState} {x:Addr} {o:Obj} {vs:Array Value}
 {nm q:Str} {C N dx:Addr} {bs bm:List Value} {sn:List Str} {sub:List Value} {ab:Bool} {col:Option Bool} {dd:Option Addr} {k0 k1 k2 k3 k5:Option Value} {B newId:String} {mN mA:Str→Option Value} {name:Str} {v:Value}
theorem zLu {tk:Tok} {Q:PySem.Fin→Shared→Prop} (hm:mroOf (.type B)=pure bm) (hB:typeLookup (.type B) name=pure none) (hC:h.get? C=some (excClassObj nm q C N bs bm true sn sub ab col dd k0 k1 k2 k3 k5 newId)) (hN:h.Ns N mN) (hna:mN name=none)
  (hx:h.get? x=some o) (hc:o.cls= .ref C) (hd:o.data= .fields vs) (hdx:o.dict=some dx) (hns:h.Ns dx mA) (hv:mA name=some v) (hq:Q (.done (.ret v)) ⟨h,g,d,t,os⟩):
  wpAny (model prog w) A (Builtin.«object.__getattribute__» ⟨[.ref x, .str name tk],[]⟩) Q E ⟨h,g,d,t,os⟩:=by
 unfold Builtin.«object.__getattribute__»
 repeat (first | (with_reducible refine wpAny_loadPart_at hx ?_; rw [hc]) | (with_reducible refine wpAny_typeLookup_exc hC hN hm hB ?_; rw [hna]) | wp_step)
 rw [hd]
 dsimp only
 unfold instanceDict
 repeat (first | (with_reducible refine wpAny_loadPart_at hx ?_; rw [hc]) | with_reducible refine wpAny_loadPart_at hC ?_ | wp_step)
 rw [hdx]
 repeat (first | (with_reducible refine wpAny_nsGet hns ?_; rw [hv]) | wp_step)
 exact hq
theorem zLv {M:Model} {nameV:Value} {Q:Unit→Shared→Prop} (hb:bm.contains (.type "BaseException")=true) (hC:h.get? C=some (excClassObj nm q C N bs bm true sn sub ab col dd k0 k1 k2 k3 k5 newId))
  (hx:h.get? x=some o) (hc:o.cls= .ref C) (hq:Q () ⟨h,g,d,t,os⟩):wpAny M A (checkBuiltinCall "BaseException.__getattribute__" ⟨[.ref x,nameV],[]⟩) Q E ⟨h,g,d,t,os⟩:=by
 have hk:builtinKind "BaseException.__getattribute__"=some .slot:=by decide +kernel
 have hsplit:splitId "BaseException.__getattribute__"=some ("BaseException","__getattribute__"):=by decide +kernel
 have hcB:(Value.ref C :: bm).contains (.type "BaseException")=true:=by rw [List.contains_cons,hb,Bool.or_true]
 have ha:=PySem.F.args_bexc_ga (.ref x) nameV
 simp only [checkBuiltinCall,hk,hsplit]
 refine wpAny_bind ?_
 ·unfold isInstance
  repeat (first | (with_reducible refine wpAny_loadPart_at hx ?_; rw [hc]) | (with_reducible refine wpAny_isSubtype_exc hC ?_; rw [hcB]) | wp_step)
  exact hq
theorem zOW {tk:Tok} {R:Result→Shared→Prop} (FB:ExcAttrBase B bm) (hB:typeLookup (.type B) name=pure none) (hC:h.get? C=some (excClassObj nm q C N bs bm true sn sub ab col dd k0 k1 k2 k3 k5 newId)) (hN:h.Ns N mN) (hna:mN name=none)
  (hx:h.get? x=some o) (hc:o.cls= .ref C) (hd:o.data= .fields vs) (hdx:o.dict=some dx) (hns:h.Ns dx mA) (hv:mA name=some v) (hq:R (.ok (.ret v)) ⟨h,g,d,t,os⟩):
  codeAny (model prog w) A (.call (.builtin "BaseException.__getattribute__") ⟨[.ref x, .str name tk],[]⟩) R ⟨h,g,d,t,os⟩:=
 codeAny_call_builtin FB.ga.plain PySem.F.entry_bexc_ga (zLv FB.hasBase hC hx hc (zLu FB.mro hB hC hN hna hx hc hd hdx hns hv hq))
theorem ld_by {tk:Tok} {fill expr:Bool} {Q:Value→Shared→Prop} (FB:ExcAttrBase B bm) (hB:typeLookup (.type B) name=pure none) (hC:h.get? C=some (excClassObj nm q C N bs bm true sn sub ab col dd k0 k1 k2 k3 k5 newId)) (hN:h.Ns N mN) (hna:mN name=none) (hng:mN "__getattribute__"=none) (hnh:mN "__getattr__"=none)
  (hx:h.get? x=some o) (hc:o.cls= .ref C) (hd:o.data= .fields vs) (hdx:o.dict=some dx) (hns:h.Ns dx mA) (hv:mA name=some v) (hh:handedOut v=pure v) (hq:Q v ⟨h,g,d,t,os⟩):
  wpAny (model prog w) A (getAttrBy (.ref x) (.str name tk) fill expr) Q E ⟨h,g,d,t,os⟩:=by
 have f3:=FB.ga.bind (.ref x)
 have hx0:(expr&&onTheHeap (Value.builtin "BaseException.__getattribute__"))=false:=by cases expr <;> rfl
 have hx2:(Value.builtin "BaseException.__getattribute__"==Value.builtin "object.__getattribute__")=false:=by decide +kernel
 have hx1:(onTheHeap (Value.ref C)&&Value.builtin "BaseException.__getattribute__"==Value.builtin "object.__getattribute__")=false:=by rw [hx2]; rfl
 repeat (any_goals (first | assumption | (with_reducible refine wpAny_loadPart_at hx ?_; rw [hc]) | (with_reducible refine wpAny_typeLookup_exc hC hN FB.mro FB.ga.lookup ?_; rw [hng]) | (with_reducible refine wpAny_typeLookup_exc hC hN FB.mro FB.noGetattr ?_; rw [hnh]) | wp_step))
 refine zOW FB hB hC hN hna hx hc hd hdx hns hv ?_
 repeat (any_goals (first | assumption | wp_step))
theorem zOX {expr:Bool} {Q:Value→Shared→Prop} (FB:ExcAttrBase B bm) (hB:typeLookup (.type B) name=pure none) (hC:h.get? C=some (excClassObj nm q C N bs bm true sn sub ab col dd k0 k1 k2 k3 k5 newId)) (hN:h.Ns N mN) (hna:mN name=none) (hng:mN "__getattribute__"=none) (hnh:mN "__getattr__"=none)
  (hx:h.get? x=some o) (hc:o.cls= .ref C) (hd:o.data= .fields vs) (hdx:o.dict=some dx) (hns:h.Ns dx mA) (hv:mA name=some v) (hh:handedOut v=pure v) (hq:Q v ⟨h,g,d,t + 1,os⟩):
  wpAny (model prog w) A (getAttr (.ref x) name expr) Q E ⟨h,g,d,t,os⟩:=by
 unfold getAttr
 repeat (any_goals (first | assumption | with_reducible apply ld_by FB hB hC hN hna hng hnh hx hc hd hdx hns hv hh | wp_step))
end
section
variable {prog:Program} {w:World} {A:Around} {E:Value→Shared→Prop} {s:Shared}
theorem zIU {expr:Bool} {Q:Value→Shared→Prop} {l:List Env} {s₀:Shared} {mk:Value} {e:Addr} (G:zHB w.params s) (F:Fly l s₀ mk e s) (hq: ∀tk,Q (.str "limit" tk) {s with toks:=s.toks + 1}):wpAny (model prog w) A (getAttr (.ref e) "kind" expr) Q E s:=by
 obtain ⟨_,c2⟩:=Prod.mk.inj (zEd w.params)
 obtain ⟨_,c3⟩:=Prod.mk.inj c2
 obtain ⟨c3,c4⟩:=Prod.mk.inj c3
 obtain ⟨_,c5⟩:=Prod.mk.inj c4
 obtain ⟨c5,c6⟩:=Prod.mk.inj c5
 have n30:=Ns.gl (Heap.Ns.of_isNs (zKr w.params))
 obtain ⟨a,t,dx,m,tk,he,hdx,hns,hm,ht⟩:=F.ex
 obtain ⟨h,g,d,t,os⟩:=s
 exact zOX PySem.F.attrBase_Exception zKj (G _ _ (zCF _)) (n30.keeps G) c3 c5 c6 he rfl rfl rfl hns.ns hm rfl (hq tk)
end
end
section
variable {prog:Program} {w:World} {rc:Nat} {A A':Around} {env:Env} {Z X O:Addr→Prop} {fr:Frm} {s s' s₀ s₂:Shared} {l:List Env} {E:Value→Shared→Prop} {e:Addr} {mk:Value}
theorem FC.move (F:FC w (GG w) gaP A env Z X O none fr s rc) (vals: ∀x sl,zAE x fr=some sl→∃d,sl= .val d) (k: ∀b o,¬PP Z X O b→s.heap.get? b=some o→s'.heap.get? b=some o)
  (ks: ∀b o,b≠env.locals→s.heap.get? b=some o→∃sl,s'.heap.get? b=some {o with slots:=sl})
  (hn: ∃m m',s.heap.Ns env.locals m∧s'.heap.Ns env.locals m'∧∀x sl,zAE x fr=some sl→m' (nm x)=m (nm x)) (hand:zAG A' s'.heap) (hp: ∀b∈zAQ A',¬PP Z X O b) (hd:A'.depth=A.depth) (hu:A'.units=A.units):FC w (GG w) gaP A' env Z X O none fr s' rc:=by
 obtain ⟨m,m',n1,n2,hm⟩:=hn
 have cell: ∀c v,s.heap.IsCell c v→s'.heap.IsCell c v:=fun c v q=>by
  have hne:=zDT q n1
  obtain ⟨o,ho,hd⟩:=q
  obtain ⟨sl,h1⟩:=ks c o hne ho
  exact ⟨_,h1,hd⟩
 refine ⟨⟨fun a o h=>⟨k a o (F.fw.glob a o h).2 (F.fw.glob a o h).1,(F.fw.glob a o h).2⟩,fun a h=> ?_,F.fw.dO,F.fw.dX,F.fw.kind,F.fw.loc,fun n hn=> ?_,F.fw.cset,fun n c h=> ?_,F.fw.cinj,F.fw.cw,m',n2,fun x sl h hx=> ?_,fun V x y dx dy v u V h1=> ?_⟩,hand,hp,F.gl,by rw [hd]; exact F.dep,by rw [hu]; exact F.un⟩
 ·by_cases q:a=env.locals
  ·obtain ⟨o,_,_,ho,_⟩:=n2; exact ⟨o,q▸ho⟩
  ·obtain ⟨o,ho⟩:=F.fw.live a h
   obtain ⟨sl,h1⟩:=ks a o q ho
   exact ⟨_,h1⟩
 ·obtain ⟨c,v,h1,h2⟩:=F.fw.cells n hn
  exact ⟨c,v,h1,cell c _ h2⟩
 ·obtain ⟨v,h2⟩:=F.fw.ccell n c h
  exact ⟨v,cell c _ h2⟩
 ·obtain ⟨d,rfl⟩:=vals x sl h
  obtain ⟨m0,n0,hv,_⟩:=F.fw.names
  have:=zDj n1 n0; subst this
  obtain ⟨v,h1,h2⟩:=hv x _ h hx
  refine ⟨v, ?_,RdW.step k (fun V V V q=>q) (show RdW (PP Z X O) s.heap v d from h2)⟩
  rcases h1 with ⟨q1,q2⟩ | ⟨q1,c,q2,q3⟩
  ·exact .inl ⟨q1,(hm x _ h).trans q2⟩
  ·exact .inr ⟨q1,c,q2,cell c _ q3⟩
 ·obtain ⟨d,h3⟩:=vals x _ h1
  cases h3
theorem Fly.keeps (F:Fly l s₀ mk e s) (k:Keeps s s'):Fly l s₀ mk e s' where
 same:=by
  obtain ⟨h',t',q⟩:=F.same; obtain ⟨h'',t'',q',_⟩:=k
  rw [q',q]; exact ⟨_,_,rfl⟩
 keep:=fun b o hb ho=>Keeps.get k (F.keep b o hb ho)
 slots:=fun b o ho=>let ⟨sl,h⟩:=F.slots b o ho; ⟨sl,Keeps.get k h⟩
 new:=F.new
 ex:=by
  obtain ⟨a,t,dx,m,tk,he,hdx,⟨o,es,ep,ho,hr⟩,hm,ht⟩:=F.ex
  exact ⟨a,t,dx,m,tk,Keeps.get k he,hdx,⟨o,es,ep,Keeps.get k ho,hr⟩,hm,ht.imp id fun ⟨T,oT,ts,q1,q2,q3,q4,r⟩=>⟨T,oT,ts,q1,q2,q3,Keeps.get k q4,r⟩⟩
theorem Fly.hand (F:Fly l s₀ mk e s): ∃o vs,s.heap.get? e=some o∧o.data= .fields vs∧vs[2]? =some .none:=by
 obtain ⟨a,t,dx,m,tk,he,_⟩:=F.ex
 exact ⟨_,_,he,rfl,rfl⟩
theorem zFB {n:Str} {b₀:Stmt} {suite:List Stmt} {p0 pos:Pos} {rest:List ExceptHandler} {Q:Flow→Shared→Prop} (G:zHB w.params s) (F:Fly l s₀ mk e s) (hk:env.scope.kind= .function) (hg:env.globals=mainGlobals∧env.builtins=builtinsNs) (k1:env.kindOf "CasFail"=some .globalImplicit)
  (h:wpAny (model prog w) (A.mark (some (.ref e))) (setFlight (.ref e) none) (fun V s₂=>wpAny (model prog w) (A.mark (some (.ref e))) (storeName env n (.ref e)) (fun V s₃=>wpAny (model prog w) (A.mark (some (.ref e))) (execs (b₀ :: suite) env)
    (fun f s₄=>wpAny (model prog w) A (do bindName env n .none; unbindBehindTheSuite env n pos) (fun V s₅=>Q f s₅) E s₄)
    (AsSuiteRaised (model prog w) (A.mark (some (.ref e))) env n pos (notedBy (model prog w) (A.mark (some (.ref e))) env (cameBackBy (model prog w) A env E))) s₃)
    (notedBy (model prog w) (A.mark (some (.ref e))) env (cameBackBy (model prog w) A env E)) s₂) (notedBy (model prog w) (A.mark (some (.ref e))) env (cameBackBy (model prog w) A env E)) s):
  wpAny (model prog w) A (handleBy (.ref e) env (.ExceptHandler (some (.Name "CasFail" p0)) (some n) (b₀ :: suite) pos :: rest)) Q E s:=by
 obtain ⟨_,x2⟩:=Prod.mk.inj (zEX w.params)
 obtain ⟨_,x3⟩:=Prod.mk.inj x2
 obtain ⟨x3,_⟩:=Prod.mk.inj x3
 have d1:((("CasFail":Str))==("__debug__":Str))=false:=by decide +kernel
 refine wpAny_handleBy_cons (codeAny_handlers_test (zIn G hk hg k1 x3 ?_ d1)) (by intro q; cases q)
 obtain ⟨a,t,dx,m,tk,he,_⟩:=F.ex
 obtain ⟨hp,g,d,tok,os⟩:=s
 refine wpAny_excMatches_sub_self (G _ _ (zCF _)) he rfl (by decide +kernel) ?_
 exact codeAny_handlers_suite_as h
end
section
variable {prog:Program} {w:World} {call:Nat→List D→Option D} {rc:Nat}
def zSt (l:List Env) (s s':Shared):Prop:=(∃h' t',s'={s with heap:=h',toks:=t'})∧(∀b o,b ∉ frs l→s.heap.get? b=some o→s'.heap.get? b=some o)∧∀b o,s.heap.get? b=some o→∃sl,s'.heap.get? b=some {o with slots:=sl}
def zDm (prog:Program) (w:World) (rc f:Nat) (ds:List D) (res:Option D):Prop:=ds≠[]∧∃a o fd,mgP w.params (nm f)=some (.ref a)∧(GG w).get? a=some o∧o.data= .func fd∧
  ∀(A:Around) (P:Addr→Prop) (l:List Env) (s:Shared) (vs:List Value) (Q:Value→Shared→Prop) (E:Value→Shared→Prop),(∀a o,(GG w).get? a=some o→s.heap.get? a=some o∧¬P a)→(∀a,P a→∃o,s.heap.get? a=some o)→
   A.handled=none→A.frames=some l→s.heap.FunFrames zBR l→(∀b∈frs l,P b)→A.depth + rc≤900→A.units + 16 * rc + 200≤9800→zAK P s.heap vs ds→
   (∀d v s',res=some d→zSt l s s'→RdW P s'.heap v d→Q v s')→(res=none→∀e s',Fly l s .none e s'→E (.ref e) s')→wpAny (model prog w) A (PySem.call (.ref a) vs) Q E s
def zDI (l:List Env) (O:Addr→Prop) (s s':Shared):Prop:=(∃h' t',s'={s with heap:=h',toks:=t'})∧(∀b o,b ∉ frs l→¬O b→s.heap.get? b=some o→s'.heap.get? b=some o)∧∀b o,¬O b→s.heap.get? b=some o→∃sl,s'.heap.get? b=some {o with slots:=sl}
theorem zDI.kb {l:List Env} {O O':Addr→Prop} {s s' s'':Shared} (h:zDI l O s s') (k:zAC O' s' s'') (hO: ∀a o,s.heap.get? a=some o→O' a→O a):zDI l O s s'':=by
 obtain ⟨⟨h1,t1,q1⟩,h2,h3⟩:=h
 refine ⟨?_,fun b o hb hn ho=>k.get (fun q=>hn (hO b o ho q)) (h2 b o hb hn ho),fun b o hn ho=> ?_⟩
 ·obtain ⟨h',t',q',_⟩:=k
  rw [q',q1]; exact ⟨_,_,rfl⟩
 ·obtain ⟨sl,h⟩:=h3 b o hn ho
  exact ⟨sl,k.get (fun q=>hn (hO b o ho q)) h⟩
theorem zDI.of {l:List Env} {O:Addr→Prop} {s s':Shared} (k:zAC O s s'):zDI l O s s':=by
 refine ⟨?_,fun b o V hn ho=>k.get hn ho,fun b o hn ho=>⟨o.slots,k.get hn ho⟩⟩
 obtain ⟨h',t',q',_⟩:=k
 exact ⟨_,_,q'⟩
theorem fn_y {f:Nat} {fn:Fn} {ds:List D} {fr:Frm} {res:Option D} (at_:zHC (GG w) (mgP w.params) gaP f fn) (ck:FnS fn=true) (h1:args fn.params ds=some fr) (hne:ds≠[])
  (body: ∀(A:Around) (env:Env) (P O:Addr→Prop) (l:List Env) (s₀ s:Shared) (Q:Flow→Shared→Prop) (E:Value→Shared→Prop),FC w (GG w) gaP A env P (fun V=>False) O none fr s rc→env.scope=fn.sc→A.handled=none→A.frames=some (env :: l)→env.frame=some env.locals→(∀b∈frs l,P b)→
   Keeps s₀ s→(∀a,O a→s₀.heap.get? a=none)→(∀s₂,zAC O s s₂→(∃m,s₂.heap.Ns env.locals m)→s₂.heap.FunFrames zBR (env :: l))→
   (∀d v s' O',res=some d→zDI l O s s'→RdW (PP P (fun V=>False) O') s'.heap v d→Q (.ret v) s')→(res=none→∀e s',Fly l s₀ .none e s'→E (.ref e) s')→
   wpAny (model prog w) A (execs (zCW nm fn.body) env) Q (fun e s'=>wpAny (model prog w) A («leaving» env e) (fun V s''=>E e s'') (fun e' s''=>E e' s'') s') s):zDm prog w (rc + 1) f ds res:=by
 obtain ⟨hlen,hfr⟩:=zCK h1
 obtain ⟨a,o,fd,e1,e2,e3,enter⟩:=zBo (rc:=rc) (prog:=prog) (zBO w) at_ ck
 refine ⟨hne,a,o,fd,e1,e2,e3, ?_⟩
 intro A P l s vs Q E glob live hand hfs hl hP dep un r hQ hE
 refine enter A P s vs Q E glob live (.inl hand) (fun b hb=> ?_) dep un (by rw [r.length,hlen]) fun env s₁ O K hnew hsc hgl ⟨hf,_⟩ _ hFC=> ?_
 ·unfold zAQ at hb; rw [hand] at hb; cases hb
 have F:=hFC fr fun x sl e=>by
  rcases hfr x sl e with ⟨d',e1,hm⟩ | e
  ·obtain ⟨v,hv,rv⟩:=zDo r hm
   exact ⟨v,d',e1,hv,rv⟩
  ·cases e
 have hl1: ∀s₂,zAC O s₁ s₂→(∃m,s₂.heap.Ns env.locals m)→s₂.heap.FunFrames zBR (env :: l):=fun s₂ k ⟨m,hns⟩=>
  Heap.FunFrames.cons (by rw [F.fw.kind]; simp) hf hns rfl ((hl.of_keeps fun b o ho V=>⟨o,Keeps.get (zCA K k hnew) ho,rfl⟩))
 refine body (A.deeper env) env P O l s s₁ (fun f s'=>Q (match f with | .ret v=>v | _=> .none) s') E F hsc hand (Around.frames_deeper hfs) hf hP K hnew hl1 (fun d v s' O' hres ⟨same,af1,af2⟩ rv=> ?_) hE
 refine hQ d v s' hres ⟨?_,fun b o hb ho=> ?_,fun b o ho=> ?_⟩ (rv.step (fun V V V q=>q) fun b V V q=> .inl q)
 ·obtain ⟨h',t',q⟩:=same; obtain ⟨h'',t'',q',_⟩:=K
  rw [q,q']; exact ⟨_,_,rfl⟩
 ·exact af1 b o hb (fun q=>by rw [hnew b q] at ho; cases ho) (Keeps.get K ho)
 ·exact af2 b o (fun q=>by rw [hnew b q] at ho; cases ho) (Keeps.get K ho)
end
noncomputable abbrev tryL:E:= .cons (.var 88 ⟨1194,28,1194,29⟩) (.cons (.var 38 ⟨1194,31,1194,35⟩) .nil)
abbrev tryS:S:= .asg (.var 4 ⟨1194,8,1194,13⟩) (.call 312 ⟨1194,16,1194,27⟩ tryL ⟨1194,16,1194,36⟩) false [] ⟨1194,8,1194,36⟩
noncomputable abbrev hdE2:E:= .cmp (.call 298 ⟨1196,36,1196,43⟩ (.cons (.var 88 ⟨1196,44,1196,45⟩) (.cons (.var 38 ⟨1196,47,1196,51⟩) .nil)) ⟨1196,36,1196,52⟩) [.IsNot] (.cons (.cst .none 0 ⟨1196,60,1196,64⟩) .nil) ⟨1196,36,1196,64⟩
noncomputable abbrev hdE3:E:= .cmp (.blt .len ⟨1196,68,1196,71⟩ (.cons (.call 111 ⟨1196,72,1196,81⟩ (.cons (.call 132 ⟨1196,82,1196,88⟩ (.cons (.var 88 ⟨1196,89,1196,90⟩) .nil) ⟨1196,82,1196,91⟩) .nil) ⟨1196,72,1196,92⟩) .nil) ⟨1196,68,1196,93⟩) [.Eq] (.cons (.cst (.int 1) 0 ⟨1196,97,1196,98⟩) .nil) ⟨1196,68,1196,98⟩
abbrev hdL:E:= .cons hdE2 (.cons hdE3 .nil)
noncomputable abbrev zLm:S:= .asg (.var 4 ⟨1198,8,1198,13⟩) (.cst .none 0 ⟨1198,16,1198,20⟩) false [] ⟨1198,8,1198,20⟩
noncomputable abbrev kindC:Expr:= .Compare (.Attribute (.Name "wrong" ⟨1196,11,1196,16⟩) "kind" ⟨1196,11,1196,21⟩) [.NotEq] [.Constant (.str "limit") 0 ⟨1196,25,1196,32⟩] ⟨1196,11,1196,32⟩
noncomputable abbrev zPl:Stmt:= .Raise (some (.Name "wrong" ⟨1197,18,1197,23⟩)) none ⟨1197,12,1197,23⟩
abbrev hdS:Stmt:= .If (.BoolOp .Or (kindC :: ups nm hdL) ⟨1196,11,1196,98⟩) [zPl] [] ⟨1196,8,1197,23⟩
abbrev indH:ExceptHandler:= .ExceptHandler (some (.Name "CasFail" ⟨1195,11,1195,18⟩)) (some "wrong") [hdS,upS nm zLm] ⟨1195,4,1198,20⟩
theorem zIK:zCW nm (Fn.mk [88,38] Fs315 Fb315).body=upS nm Fb315.hd :: .Try [upS nm tryS] [indH] [] [] ⟨1193,4,1198,20⟩ :: zCW nm Fb315.tl.tl:=by kernel_rfl
noncomputable def retR (f:Fl):Option D:=Fl.rec (motive:=fun V=>Option D) (fun V=>none) (fun V=>none) some f
theorem zGR {f:Fl} {d:D} (h:retR f=some d):f= .ret d:=by cases f <;> first | (cases h; done) | exact congrArg Fl.ret (Option.some.inj h)
noncomputable def zKz (fr:Frm):Bool:=List.rec (motive:=fun V=>Bool) true (fun p V ih=>Slot.rec (motive:=fun V=>Bool) (fun V=>ih) (fun V=>false) p.2) fr
theorem zEg: ∀{fr:Frm},zKz fr=true→∀x sl,zAE x fr=some sl→∃d,sl= .val d
 | [],_,x,sl,h=>by cases h
 | (y, .val d) :: r,a,x,sl,h=>by
  have h:zAA (Nat.beq y x) (some (Slot.val d)) (zAE x r)=some sl:=h
  cases q:Nat.beq y x with
  | true=>rw [q,zAJ] at h; cases h; exact ⟨d,rfl⟩
  | false=>rw [q,zAF] at h; exact zEg (fr:=r) a x sl h
 | (y, .own d) :: r,a,x,sl,h=>by cases (show false=true from a)
noncomputable def noW (fr:Frm):Bool:=Option.rec (motive:=fun V=>Bool) true (fun V=>false) (zAE 314 fr)
theorem zNQ {fr:Frm} (h:noW fr=true) {x:Nat} {sl:Slot} (e:zAE x fr=some sl):nm x≠"wrong":=fun q=>by
 have e2:x=314:=zEw (q.trans (show ("wrong":Str)=nm 314 by decide +kernel))
 subst e2
 unfold noW at h
 rw [e] at h; cases h
section
variable {prog:Program} {w:World} {call:Nat→List D→Option D} {rc:Nat}
noncomputable def zHb (call:Nat→List D→Option D) (fr:Frm):Option D:=bnd ((Ex gc call Fb315.tl.tl).xs fr) retR
noncomputable def indF (call:Nat→List D→Option D) (ds:List D) (k:Frm→Option D):Option D:=bnd (args [88,38] ds) fun fr=>bnd ((Ex gc call Fb315.hd).x fr) fun f1=>zIj f1 k
noncomputable def zNa (call:Nat→List D→Option D) (ds:List D):Option D:=indF call ds fun fr1=>bnd ((Ex gc call tryS).x fr1) fun f2=>zIj f2 fun fr2=>zHb call fr2
noncomputable def indX {τ:Type} (call:Nat→List D→Option D) (fr1:Frm) (k:Bool→Option τ):Option τ:=
 zAA (zKz fr1) (zAA (noW fr1) (bnd ((Ev gc call tryL).l fr1) fun as=>zBn as fun as=>bnd (zHI call as) fun V=>bnd ((Ev gc call hdL).a .Or fr1) k) none) none
noncomputable def indB (call:Nat→List D→Option D) (ds:List D):Option D:=indF call ds fun fr1=>indX call fr1 fun c=>zAA c (some .none) none
noncomputable def zIL (call:Nat→List D→Option D) (ds:List D):Option D:=indF call ds fun fr1=>indX call fr1 fun c=>zAA c none (bnd ((Ex gc call zLm).x fr1) fun f2=>zIj f2 fun fr2=>zAA (zKz fr2) (zAA (noW fr2) (zHb call fr2) none) none)
theorem ind_a (hc:zAW prog w (GG w) (mgP w.params) call (rc + 1)) {ds:List D} {d:D} (h:zNa call ds=some d):zDm prog w (rc + 5) 315 ds (some d):=by
 obtain ⟨fr,h1,h⟩:=zAB h
 obtain ⟨f1,h2,h⟩:=zAB h
 obtain ⟨fr1,rfl,h⟩:=zAY h
 obtain ⟨f2,h3,h⟩:=zAB h
 obtain ⟨fr2,rfl,h⟩:=zAY h
 obtain ⟨fl,h4,h⟩:=zAB h
 obtain rfl:=zGR h
 have as:=zGy (rc:=rc + 4) (zBO w) (zAn hc (by lia)) zAj (zGJ prog w _)
 refine fn_y (zKh _).gl (by decide +kernel) h1 (zEf h1 (by simp)) fun A env P O l s₀ s Q E F hsc hh hfr hf hP K hnew hl rt re=> ?_
 have hsc:env.scope=Fs315:=hsc
 rw [zIK]
 refine go1 (as _).1 F (by rw [hsc]; decide +kernel) h2 fun s1 O1 k1 n1 F1=> ?_
 refine wpAny_execs_cons (wpAny_Try_except ?_)
 refine go1 (as _).1 F1 (by rw [hsc]; decide +kernel) h3 fun s2 O2 k2 n2 F2=> ?_
 refine wpAny_execs_nil (wpAny_execs_nil ?_)
 refine (as _).2 A env P _ O2 fr2 s2 _ _ _ F2 (by rw [hsc]; decide +kernel) h4 fun fw s3 O3 k3 n3 fo=> ?_
 obtain ⟨v,rfl,rv⟩:=fo
 obtain ⟨k4,n4⟩:=zAs k1 n1 k2 n2
 obtain ⟨k5,n5⟩:=zAs k4 n4 k3 n3
 exact rt d v s3 O3 rfl (zDI.of k5) rv
end
def zFw (env:Env) (l:List Env) (s₀:Shared) (mk:Value) (e:Addr) (s:Shared):Prop:=∃s₂,Keeps s₀ s₂∧(∃o,s₂.heap.get? env.locals=some o)∧Fly (env :: l) s₂ mk e s
section
variable {env:Env} {l:List Env} {s₀ s s':Shared} {mk:Value} {e:Addr}
theorem zFw.keeps (F:zFw env l s₀ mk e s) (k:Keeps s s'):zFw env l s₀ mk e s':=let ⟨s₂,h1,h2,h3⟩:=F; ⟨s₂,h1,h2,h3.keeps k⟩
theorem zFw.bind (F:zFw env l s₀ mk e s) (hf:env.frame=some env.locals) (hnew:s₀.heap.get? env.locals=none) (kb:zAC (· =env.locals) s s') (hlive: ∃o,s'.heap.get? env.locals=some o):zFw env l s₀ mk e s':=by
 obtain ⟨s₂,k,⟨oL,hL⟩,F⟩:=F
 obtain ⟨oN,hN⟩:=hlive
 have hfree:=(Heap.get?_some_iff.mp hN).2
 have ne: ∀b,s₂.heap.get? b=none→b≠env.locals:=fun b h q=>by rw [q,hL] at h; cases h
 have ne0: ∀b o,s₀.heap.get? b=some o→b≠env.locals:=fun b o h q=>by rw [q,hnew] at h; cases h
 have hself:(s₂.heap.update env.locals fun V=>oN).get? env.locals=some oN:=Heap.get?_update_self (fun V=>oN) hL hfree
 have other: ∀b,b≠env.locals→(s₂.heap.update env.locals fun V=>oN).get? b=s₂.heap.get? b:=fun b hb=>Heap.get?_update_other _ _ (Ne.symm hb)
 have inF:env.locals∈frs (env :: l):=by unfold frs; rw [List.filterMap_cons,hf]; exact List.mem_cons_self
 refine ⟨{s₂ with heap:=s₂.heap.update env.locals fun V=>oN}, ?_,⟨oN,hself⟩, ?_,fun b o hb ho=> ?_,fun b o ho=> ?_,(other e (ne e F.new)).trans F.new, ?_⟩
 ·obtain ⟨h',t',q,kk⟩:=k
  subst q
  exact ⟨_,t',rfl,fun a o ho=>(other a (ne0 a o ho)).trans (kk a o ho)⟩
 ·obtain ⟨h',t',q⟩:=F.same; obtain ⟨h'',t'',q',_⟩:=kb
  rw [q',q]; exact ⟨_,_,rfl⟩
 ·have hbe:b≠env.locals:=fun q=>hb (q▸inF)
  exact kb.get hbe (F.keep b o hb ((other b hbe).symm.trans ho))
 ·by_cases hbe:b=env.locals
  ·subst hbe
   have ho:=Option.some.inj (hself.symm.trans ho)
   subst ho
   exact ⟨oN.slots,hN⟩
  ·obtain ⟨sl,h⟩:=F.slots b o ((other b hbe).symm.trans ho)
   exact ⟨sl,kb.get hbe h⟩
 ·obtain ⟨a,t,dx,m,tk,he,hdx,⟨o,es,ep,ho,hr⟩,hm,ht⟩:=F.ex
  exact ⟨a,t,dx,m,tk,kb.get (ne _ F.new) he,(other dx (ne _ hdx)).trans hdx,⟨o,es,ep,kb.get (ne _ hdx) ho,hr⟩,hm,ht.imp id fun ⟨T,oT,ts,q1,q2,q3,q4,r⟩=>⟨T,oT,ts,q1,(other T (ne _ q2)).trans q2,q3,kb.get (ne _ q2) q4,r⟩⟩
theorem zFw.back (F:zFw env l s₀ mk e s) (hf:env.frame=some env.locals) (hnew:s₀.heap.get? env.locals=none):Fly l s₀ mk e s:=by
 obtain ⟨s₂,k,_,F⟩:=F
 exact F.back k fun L hL=>by rw [hf] at hL; cases hL; exact hnew
end
section
variable {prog:Program} {w:World} {A:Around} {env:Env} {l:List Env} {s₀ s:Shared} {e:Addr} {E:Value→Shared→Prop}
theorem zGK {n:Str} {pos:Pos} {Eo:Value→Shared→Prop} (F:zFw env l s₀ .none e s) (hfr:A.frames=some (env :: l)) (hl:s.heap.FunFrames zBR (env :: l)) (hf:env.frame=some env.locals) (hnew:s₀.heap.get? env.locals=none) (hk:env.scope.kind= .function) (kw:env.kindOf n=some .local) (hns: ∃m,s.heap.Ns env.locals m)
  (hE: ∀s',Fly l s₀ .none e s'→Eo (.ref e) s'):AsSuiteRaised (model prog w) (A.mark (some (.ref e))) env n pos (notedBy (model prog w) (A.mark (some (.ref e))) env (cameBackBy (model prog w) A env fun e s'=>wpAny (model prog w) A («leaving» env e) (fun V s''=>Eo e s'') (fun e' s''=>Eo e' s'') s')) (.ref e) s:=by
 obtain ⟨s₂,k,hlv,Fl⟩:=F
 have hri:rawInt env.locals≠Value.none:=by simp [rawInt]
 refine zDr (A:=A.mark (some (.ref e))) hfr hl hf Fl (fun b hb=> .inl hb) fun s1 F1 r1=> ?_
 obtain ⟨m,o,es,ep,ho,hd,hr⟩:=hns
 obtain ⟨sl,h1⟩:=r1 _ o ho (fun vs q=>by rw [hd] at q; cases q)
 have hn1:s1.heap.Ns env.locals m:=⟨_,es,ep,h1,hd,hr⟩
 refine wpAny_nameGoes_keeps kw hn1 (by rw [hk]; rfl) fun h2 v hn2 hs2=> ?_
 have FF:zFw env l s₀ (rawInt env.locals) e {s1 with heap:=h2,toks:=s1.toks + 1}:=zFw.bind ⟨s₂,k,hlv,F1⟩ hf hnew (zAC.same hs2 rfl) (by obtain ⟨o,_,_,ho,_⟩:=hn2; exact ⟨o,ho⟩)
 generalize ({s1 with heap:=h2,toks:=s1.toks + 1}:Shared)=s2 at FF
 have fld: ∀{A':Around} {s:Shared} {Q:Value→Shared→Prop} {E:Value→Shared→Prop},zFw env l s₀ (rawInt env.locals) e s→(∀T:Addr,Q (.ref T) s)→wpAny (model prog w) A' (field (.ref e) 1) Q E s:=fun F hQ=>by
  obtain ⟨_,_,_,F⟩:=F
  obtain ⟨a,t,dx,m,tk,he,_,_,_,ht⟩:=F.ex
  rcases ht with ⟨_,h⟩ | ⟨T,_,_,rfl,_⟩
  ·exact absurd h hri
  ·exact wpAny_field he rfl rfl (hQ T)
 have flt: ∀{A':Around} {s:Shared} {Q:Unit→Shared→Prop} {E:Value→Shared→Prop},zFw env l s₀ (rawInt env.locals) e s→(∀s',zFw env l s₀ (rawInt env.locals) e s'→Q () s')→wpAny (model prog w) A' (setFlight (.ref e) env.frame) Q E s:=fun F hQ=>by
  obtain ⟨s₂,k,hlv,F⟩:=F
  rw [hf]
  exact zBD (some env.locals) F (.inl hri) fun s' F' V=>hQ s' ⟨s₂,k,hlv,F'⟩
 unfold PySem.passOn
 refine wpAny_bind (fld FF fun T=> ?_)
 rw [if_neg (show ¬((Value.ref T==Value.none)=true) from by simp)]
 refine wpAny_bind (flt FF fun s3 F3=>wpAny_throw ?_)
 show wpAny _ _ (noteFrame (.ref e) env) _ _ _
 refine zGm hf F3.choose_spec.2.2 ?_
 show wpAny _ _ _ _ _ _
 refine wpAny_bind (fld F3 fun T'=> ?_)
 rw [if_neg (show ¬((Value.ref T'==Value.none)=true) from by simp)]
 refine flt F3 fun s4 F4=> ?_
 unfold «leaving»
 obtain ⟨s₃,k3,hlv3,F5⟩:=F4
 refine wpAny_bind (zGm hf F5 (zBD none F5 (.inr rfl) fun s6 F6 V=>hE s6 (zFw.back ⟨s₃,k3,hlv3,F6⟩ hf hnew)))
end
section
variable {prog:Program} {w:World} {call:Nat→List D→Option D} {rc:Nat}
theorem zQM (hc:zAW prog w (GG w) (mgP w.params) call (rc + 1)) {ds as:List D} {fr fr1:Frm} {c:Bool} {res:Option D} (h1:args [88,38] ds=some fr) (h2:(Ex gc call Fb315.hd).x fr=some (.next fr1)) (v1:zKz fr1=true) (w1:noW fr1=true)
  (h3:(Ev gc call tryL).l fr1=some as) (h4:zHI call as=some ()) (h5:(Ev gc call hdL).a .Or fr1=some c) (ct:c=true→res=none)
  (cf:c=false→∃fr2 d,(Ex gc call zLm).x fr1=some (.next fr2)∧zKz fr2=true∧noW fr2=true∧(Ex gc call Fb315.tl.tl).xs fr2=some (.ret d)∧res=some d):zDm prog w (rc + 5) 315 ds res:=by
 have px:zHA prog w (rc + 4) 312 as:=zLX hc h4
 have ae:=zEo (rc:=rc + 4) (zBO w) (zAn hc (by lia)) zAj
 have as':=zGy (rc:=rc + 4) (zBO w) (zAn hc (by lia)) zAj (zGJ prog w _)
 refine fn_y (zKh _).gl (by decide +kernel) h1 (zEf h1 (by simp)) fun A env P O l s₀ s Q E F hsc hh hfr hf hP K hnew hl rt re=> ?_
 have hsc:env.scope=Fs315:=hsc
 have kW:env.kindOf "wrong"=some .local:=by unfold Env.kindOf; rw [hsc]; decide +kernel
 have kC:env.kindOf "CasFail"=some .globalImplicit:=by unfold Env.kindOf; rw [hsc]; decide +kernel
 have d1:((("wrong":Str))==("__debug__":Str))=false:=by decide +kernel
 have hkind:=F.fw.kind
 have hO:=F.fw.loc
 have hgl:=F.gl
 have hun:=F.un
 rw [zIK]
 refine go1 (as' _).1 F (by rw [hsc]; decide +kernel) h2 fun s1 O1 k1 n1 F1=> ?_
 refine wpAny_execs_cons (wpAny_Try_except ?_)
 refine wpAny_execs_cons (zEe (.inl ⟨_,_,rfl⟩) (by decide +kernel) (by rintro _ _ _ _ _ ⟨⟩) (by rintro _ _ _ _ _ _ ⟨⟩) (by rintro _ ⟨⟩) ?_)
 refine zDU (ae _).sl F1 hh hfr (hl s1 k1 F1.frs) (by rw [hsc]; decide +kernel) h3 px fun e s2 s3 k2 fl=> ?_
 have F2:=F1.keeps k2
 have k12:zAC O s s2:=k1.trans (zAC.of (O:=O) k2) fun V V V h=>h
 have KK:Keeps s₀ s2:=zCA K k12 hnew
 have hlN:=hl s2 k12 F2.frs
 have hlv2: ∃o,s2.heap.get? env.locals=some o:=by obtain ⟨m,o,_,_,ho,_⟩:=F2.frs; exact ⟨o,ho⟩
 have hnl:s₀.heap.get? env.locals=none:=hnew _ hO
 have sub: ∀b∈frs (env :: l),PP P (fun V=>False) O1 b:=fun b hb=>by
  unfold frs at hb
  rw [List.filterMap_cons,hf] at hb
  rcases List.mem_cons.mp hb with q | q
  ·rw [q]; exact .inr (.inr F1.fw.loc)
  ·exact .inl (hP b q)
 refine zDr hfr (FunFrames.slots fl.slots hlN) hf fl (fun b hb=> .inl hb) fun s4 fl4 V=> ?_
 refine zBD none fl4 (.inr rfl) fun s5 fl5 V=> ?_
 have G5:zHB w.params s5:=fun a o h=>fl5.keep a o (fun q=>(F2.fw.glob a o h).2 (sub a q)) (F2.fw.glob a o h).1
 refine zFB G5 fl5 hkind hgl kC ?_
 refine zBD none fl5 (.inr rfl) fun s6 fl6 V=> ?_
 obtain ⟨m,hns2⟩:=F2.frs
 have hns6:s6.heap.Ns env.locals m:=by
  obtain ⟨o,es,ep,ho,r⟩:=hns2
  obtain ⟨sl,h⟩:=fl6.slots _ o ho
  exact ⟨_,es,ep,h,r⟩
 refine wpAny_storeName_local kW hns6 (fun h7 hn7 hs7=> ?_) (by rw [hkind]; rfl)
 have kb7:zAC (· =env.locals) s6 {s6 with heap:=h7,toks:=s6.toks + 1}:=zAC.same hs7 rfl
 have B7:zFw env l s₀ .none e {s6 with heap:=h7,toks:=s6.toks + 1}:=zFw.bind ⟨s2,KK,hlv2,fl6⟩ hf hnl kb7 (by obtain ⟨o,_,_,ho,_⟩:=hn7; exact ⟨o,ho⟩)
 have hn7:({s6 with heap:=h7,toks:=s6.toks + 1}:Shared).heap.Ns env.locals (fun x=>if x="wrong" then some (.ref e) else m x):=hn7
 have A7:zDI l O s {s6 with heap:=h7,toks:=s6.toks + 1}:=by
  refine zDI.kb (O':=(· =env.locals)) (s':=s6) ⟨?_,fun b o hb hn ho=> ?_,fun b o hn ho=>fl6.slots b o (k12.get hn ho)⟩ kb7 fun a o V q=>q▸hO
  ·obtain ⟨h',t',q⟩:=fl6.same; obtain ⟨h'',t'',q',_⟩:=k12
   rw [q,q']; exact ⟨_,_,rfl⟩
  ·refine fl6.keep b o (fun q=> ?_) (k12.get hn ho)
   unfold frs at q
   rw [List.filterMap_cons,hf] at q
   rcases List.mem_cons.mp q with q | q
   ·exact hn (q▸hO)
   ·exact hb q
 have L7:({s6 with heap:=h7,toks:=s6.toks + 1}:Shared).heap.FunFrames zBR l:=FunFrames.kb (FunFrames.slots fl6.slots hlN.2.2) kb7 fun b hb q=>(F.fw.dO _ hO).1 (q▸hP b hb)
 generalize ({s6 with heap:=h7,toks:=s6.toks + 1}:Shared)=s7 at kb7 B7 hn7 A7 L7
 have F7:FC w (GG w) gaP (A.mark (some (.ref e))) env P (fun V=>False) O1 none fr1 s7 (rc + 4):=by
  refine F2.move (zEg v1) (fun b o hn ho=>kb7.get (fun q=>hn (q▸ .inr (.inr F1.fw.loc))) (fl6.keep b o (fun q=>hn (sub b q)) ho)) (fun b o hb ho=> ?_) ⟨m,_,hns2,hn7,fun x sl h=>if_neg (zNQ w1 h)⟩ ?_ (fun b hb q=> ?_) rfl rfl
  ·obtain ⟨sl,h⟩:=fl6.slots b o ho
   exact ⟨sl,kb7.get hb h⟩
  ·obtain ⟨o,vs,g1,g2,g3⟩:=(B7.back hf hnl).hand
   exact .inr ⟨e,o,vs,rfl,g1,g2,g3⟩
  ·have hb:b=e:=by
    have hb:b∈[e]:=hb
    simpa using hb
   subst hb
   obtain ⟨o,ho⟩:=F2.fw.live b q
   rw [fl5.new] at ho; cases ho
 have dep:(A.mark (some (.ref e))).units + 62 < cLine:=(F7.cx).units
 refine wpAny_execs_cons (wpAny_If ?_)
 rw [arm_isTrue_BoolOp]
 refine wpAny_allTrue_Or_cons (wpAny_isTrue_Compare1 ?_ rfl)
 refine Attribute_name (zEQ hkind kW hn7 (if_pos rfl) ?_ d1)
 refine zIU (fun a o h=>(F7.fw.glob a o h).1) (B7.back hf hnl) fun tk=> ?_
 refine Calls.Constant_str ?_
 have ok:PyData.strOk ("limit":Str)=true:=by decide +kernel
 refine zGY (P:=fun V=>False) (a:= .str "limit") (b:= .str "limit") (r:=false) (by decide +kernel) (.str _ _ ok) (.str _ _ ok) dep ?_
 refine wpAny_truthy_bool ?_
 have k78:Keeps s7 {s7 with toks:=s7.toks + 1 + 1}:=Keeps.toks s7 _
 show wpAny _ _ (allTrue .Or (ups nm hdL) env) _ _ {s7 with toks:=s7.toks + 1 + 1}
 generalize ({s7 with toks:=s7.toks + 1 + 1}:Shared)=s8 at k78
 refine (ae hdL).sl.a .Or _ env _ fr1 s8 _ _ c (F7.keeps k78).cx (by rw [hsc]; decide +kernel) h5 fun s9 k9=> ?_
 have k79:=Keeps.trans k78 k9
 have F9:=F7.keeps k79
 have B9:=B7.keeps k79
 have A9:=A7.kb (zAC.of (O:=fun V=>False) k79) fun V V V h=>h.elim
 have hn9:=Heap.Ns.keeps hn7 fun a o h=>Keeps.get k79 h
 induction c with
 | true=>
  have hres:=ct rfl
  rw [if_pos rfl]
  refine wpAny_execs_cons ?_
  rw [arm_exec_Raise]
  obtain ⟨sx,kx,hlx,flx⟩:=B9
  refine wpAny_bind (wpAny_standAt (zGS (l:=env :: l) (s₀:=sx) ?_))
  refine wpAny_bind (wpAny_mono (Q:=fun v s₁=>v= .ref e∧s₁=s9) (E:=fun V V=>False) (zEQ hkind kW hn9 (if_pos rfl) ⟨rfl,rfl⟩ d1) (fun v s₃ h₃=>wpAny_bind (wpAny_standAt (wpAny_pure ?_))) fun V V x=>x.elim)
  obtain ⟨rfl,rfl⟩:=h₃
  refine ⟨e,rfl,(F9.fw.glob _ _ (zCF _)).1,flx, .inr rfl,fun s10 fl10 kept=> ?_⟩
  have hn10: ∃m,s10.heap.Ns env.locals m:=by
   obtain ⟨o,es,ep,ho,hd,r⟩:=hn9
   exact ⟨_,o,es,ep,kept _ o ho (fun vs q=>by rw [hd] at q; cases q),hd,r⟩
  have hl9:s₃.heap.FunFrames zBR (env :: l):=by
   exact Heap.FunFrames.cons (by rw [hkind]; simp) hf hn9 rfl (L7.of_keeps fun b o ho V=>⟨o,Keeps.get k79 ho,rfl⟩)
  exact zGK ⟨sx,kx,hlx,fl10⟩ hfr (hl9.of_keeps fun b o ho hnf=>⟨o,kept b o ho hnf,rfl⟩) hf hnl hkind kW hn10 fun s' fl'=>re hres e s' fl'
 | false=>
  obtain ⟨fr2,d,h6,v2,w2,h7,hres⟩:=cf rfl
  rw [if_neg (by simp)]
  refine wpAny_execs_nil ?_
  refine go1 (as' _).1 F9 (by rw [hsc]; decide +kernel) h6 fun s10 O2 k10 n10 F10=> ?_
  refine wpAny_execs_nil ?_
  obtain ⟨m10,hn10⟩:=F10.frs
  refine wpAny_nameGoes_keeps kW hn10 (by rw [hkind]; rfl) fun h11 v hn11 hs11=> ?_
  have kb11:zAC (· =env.locals) s10 {s10 with heap:=h11,toks:=s10.toks + 1}:=zAC.same hs11 rfl
  have hn11:({s10 with heap:=h11,toks:=s10.toks + 1}:Shared).heap.Ns env.locals (fun x=>if x="wrong" then v else m10 x):=hn11
  have A10:=A9.kb k10 fun a o ho q=>(n1 a q).elim id fun h=>by rw [ho] at h; cases h
  have A11:=A10.kb kb11 fun a o V q=>q▸hO
  generalize ({s10 with heap:=h11,toks:=s10.toks + 1}:Shared)=s11 at kb11 hn11 A11
  have F11:FC w (GG w) gaP A env P (fun V=>False) O2 none fr2 s11 (rc + 4):=by
   refine F10.move (zEg v2) (fun b o hn ho=>kb11.get (fun q=>hn (q▸ .inr (.inr F10.fw.loc))) ho) (fun b o hb ho=>⟨o.slots,kb11.get hb ho⟩) ⟨m10,_,hn10,hn11,fun x sl h=>if_neg (zNQ w2 h)⟩ (.inl hh) (fun b hb q=> ?_) rfl rfl
   unfold zAQ at hb; rw [hh] at hb; cases hb
  refine (as' _).2 A env P _ O2 fr2 s11 _ _ _ F11 (by rw [hsc]; decide +kernel) h7 fun fw s12 O3 k12 n12 fo=> ?_
  obtain ⟨v,rfl,rv⟩:=fo
  refine rt d v s12 O3 hres (A11.kb k12 fun a o ho q=> ?_) rv
  rcases n10 a q with q | q
  ·exact (n1 a q).elim id fun h=>by rw [ho] at h; cases h
  ·by_cases hOa:O a
   ·exact hOa
   ·obtain ⟨sl,h⟩:=A9.2.2 a o hOa ho
    rw [q] at h; cases h
theorem ind_b (hc:zAW prog w (GG w) (mgP w.params) call (rc + 1)) {ds:List D} {d:D} (h:indB call ds=some d):zDm prog w (rc + 5) 315 ds none:=by
 obtain ⟨fr,h1,h⟩:=zAB h
 obtain ⟨f1,h2,h⟩:=zAB h
 obtain ⟨fr1,rfl,h⟩:=zAY h
 obtain ⟨v1,h⟩:=zAD h
 obtain ⟨w1,h⟩:=zAD h
 obtain ⟨as,h3,h⟩:=zAB h
 rw [zBN] at h
 obtain ⟨u,h4,h⟩:=zAB h
 obtain ⟨c,h5,h⟩:=zAB h
 induction c with
 | false=>cases h
 | true=>exact zQM hc h1 h2 v1 w1 h3 h4 h5 (fun V=>rfl) fun e=>by cases e
theorem ind_c (hc:zAW prog w (GG w) (mgP w.params) call (rc + 1)) {ds:List D} {d:D} (h:zIL call ds=some d):zDm prog w (rc + 5) 315 ds (some d):=by
 obtain ⟨fr,h1,h⟩:=zAB h
 obtain ⟨f1,h2,h⟩:=zAB h
 obtain ⟨fr1,rfl,h⟩:=zAY h
 obtain ⟨v1,h⟩:=zAD h
 obtain ⟨w1,h⟩:=zAD h
 obtain ⟨as,h3,h⟩:=zAB h
 rw [zBN] at h
 obtain ⟨u,h4,h⟩:=zAB h
 obtain ⟨c,h5,h⟩:=zAB h
 induction c with
 | true=>cases h
 | false=>
  obtain ⟨f2,h6,h⟩:=zAB (show bnd ((Ex gc call zLm).x fr1) (fun f2=>zIj f2 fun fr2=>zAA (zKz fr2) (zAA (noW fr2) (zHb call fr2) none) none)=some d from h)
  obtain ⟨fr2,rfl,h⟩:=zAY h
  obtain ⟨v2,h⟩:=zAD h
  obtain ⟨w2,h⟩:=zAD h
  obtain ⟨fl,h7,h⟩:=zAB h
  obtain rfl:=zGR h
  exact zQM hc h1 h2 v1 w1 h3 h4 h5 (fun e=>by cases e) fun V=>⟨fr2,d,h6,v2,w2,h7,rfl⟩
end
section
open K
def Fb318:S:=sl' [.asgS 317 (p 4 3 1206) (i 1 8 1 1206) (p 4 6 1206) (b (x (v 317 13 3) (i 1 17 1) 13 6) .Add (i 1 22 1) 13 10 1206) [] (p 4 19 1206),I (m1 (x (v 317 7 3) (i 1 11 1) 7 6) .LtE (w .len 17 3 11 [x (v 317 21 3) (i 0 25 1) 21 6]) 7 21) [R [b (w .abs 15 3 23 [x (x (v 317 19 3) (i 0 23 1) 19 6) (b (x (v 317 26 3) (i 1 30 1) 26 6) .Sub (i 1 35 1) 26 10) 19 18]) .Mod (v 5 41 4) 15 30] 8 37 1208] [] 1207 4 1208 45,R [b (b (b (i 5 12 1) .Mult (x (v 317 16 3) (i 1 20 1) 16 6) 12 10) .Add (b (x (v 317 25 3) (i 1 29 1) 25 6) .FloorDiv (i 3 35 1) 25 11) 12 24) .Mod (v 5 40 4) 11 33] 4 40 1209]
def Fb320:S:=sl' [.raw (.Try (body:=[.Return (value:=some (.Call (.Name "work" (p 15 4 1212)) [] [] (p 15 6 1212))) (pos:=(p 8 13 1212))]) (handlers:=[.ExceptHandler (type:=some (.Name "CasFail" (p 11 7 1213))) (name:=some "wrong") (body:=[.Return (value:=some (.Attribute (.Name "wrong" (p 15 5 1214)) "kind" (p 15 10 1214))) (pos:=(p 8 17 1214))]) (pos:=⟨1213,4,1214,25⟩)]) (orelse:=[]) (finalbody:=[]) (pos:=⟨1211,4,1214,25⟩))]
def Fb330:S:=sl' [A (v 317 4 3) (s [w .list 11 4 16 [x (v 321 16 6) (sl [] [i 8 24 1] [] 23 2) 16 10],i 0 29 1] 10 21) 4 27 1230,T [v 322 4 4,v 9 10 6] 4 12 [r (.Call (func:=.Name "_law_take" (p 20 9 1231)) (args:=[.Name "box" (p 30 3 1231),.Constant (.int 3) 0 (p 35 1 1231)]) (keywords:=[]) (pos:=(p 20 17 1231))),b (i 1 39 1) .Add (r (.Call (func:=.Name "_law_take" (p 43 9 1231)) (args:=[.Name "box" (p 53 3 1231),.Constant (.int 3) 0 (p 58 1 1231)]) (keywords:=[]) (pos:=(p 43 17 1231)))) 39 21] 19 42 [false,false] [] 4 57 1231,A (v 323 4 5) (x (x (s [s [i 1 14 1,i 2 17 1,i 1 20 1,i 2 23 1] 13 12,s [i 450 28 3,i 400 33 3,i 300 38 3,i 350 43 3] 27 20] 12 36) (r (.Call (func:=.Name "int" (p 49 3 1232)) (args:=[.Compare (left:=.Name "form" (p 53 4 1232)) (ops:=[.Gt]) (comparators:=[.Constant (.int 0) 0 (p 60 1 1232)]) (pos:=(p 53 8 1232))]) (keywords:=[]) (pos:=(p 49 13 1232)))) 12 51) (r (.Call (func:=.Name "_law_take" (p 64 9 1232)) (args:=[.Name "box" (p 74 3 1232),.Constant (.int 4) 0 (p 79 1 1232)]) (keywords:=[]) (pos:=(p 64 17 1232)))) 12 70) 4 78 1232,A (v 324 4 5) (lc (u [t "pow" 14 5,v 326 21 4,u [t "num" 28 5,n (i 1 36 1) 35 2,i 1 39 1] 27 14] 13 29) [ge (v 326 47 4) (u [g 325 56 6,u [t "sum" 65 5,u [g 325 73 6,u [t "num" 82 5,v 323 89 5,i 1 96 1] 81 17] 72 27] 64 36] 55 46) []] [326] (l [18,326]) 12 90) 4 98 1233,I (m1 (v 322 7 4) .Eq (i 1 15 1) 7 9) [R [m1 (r (.Call (func:=.Name "_law_told" (p 15 9 1235)) (args:=[.Lambda (args:={posonlyargs:=[],args:=[],vararg:=none,kwonlyargs:=[],kw_defaults:=[],kwarg:=none,defaults:=[]}) (body:=.Call (func:=.Name "indefinite_sum" (p 33 14 1235)) (args:=[.Tuple (elts:=[.Constant (.str "prod") 0 (p 49 6 1235),.Tuple (elts:=[.Tuple (elts:=[.Constant (.str "num") 0 (p 59 5 1235),.Name "number" (p 66 6 1235),.Constant (.int 1) 0 (p 74 1 1235)]) (k:=0) (pos:=(p 58 18 1235)),.Subscript (value:=.Name "lines" (p 78 5 1235)) (slice:=.Constant (.int 0) 0 (p 84 1 1235)) (pos:=(p 78 8 1235)),.Subscript (value:=.Name "lines" (p 88 5 1235)) (slice:=.Constant (.int 1) 0 (p 94 1 1235)) (pos:=(p 88 8 1235))]) (k:=0) (pos:=(p 57 40 1235))]) (k:=0) (pos:=(p 48 50 1235)),.Constant (.str "n") 0 (p 100 3 1235)]) (keywords:=[]) (pos:=(p 33 71 1235))) (scope:={kind:=.function,names:=[(o "lines",.free),(o "number",.free),(o "indefinite_sum",.globalImplicit)],isGenerator:=false,isCoroutine:=false,more:=[]}) (pos:=(p 25 79 1235))]) (keywords:=[]) (pos:=(p 15 90 1235)))) .Eq (t "limit" 109 7) 15 101] 8 108 1235] [] 1234 4 1235 116,A (v 88 4 1) (u [t "sum" 9 5,u [u [t "prod" 18 6,u [u [t "num" 28 5,v 9 35 6,i 1 43 1] 27 18,x (v 324 47 5) (i 0 53 1) 47 8] 26 30] 17 40,u [t "prod" 60 6,u [u [t "num" 70 5,b (i 0 77 1) .Sub (v 9 81 6) 77 10,i 1 89 1] 69 22,x (v 324 93 5) (i 1 99 1) 93 8] 68 34] 59 44] 16 88] 8 97) 4 101 1236,A (v 36 4 4) (r (.Call (func:=.Name "_law_told" (p 11 9 1237)) (args:=[.Lambda (args:={posonlyargs:=[],args:=[],vararg:=none,kwonlyargs:=[],kw_defaults:=[],kwarg:=none,defaults:=[]}) (body:=.Call (func:=.Name "indefinite_sum" (p 29 14 1237)) (args:=[.Name "t" (p 44 1 1237),.Constant (.str "n") 0 (p 47 3 1237)]) (keywords:=[]) (pos:=(p 29 22 1237))) (scope:={kind:=.function,names:=[(o "t",.free),(o "indefinite_sum",.globalImplicit)],isGenerator:=false,isCoroutine:=false,more:=[]}) (pos:=(p 21 30 1237))]) (keywords:=[]) (pos:=(p 11 41 1237)))) 4 48 1237,I (m1 (v 322 7 4) .Eq (i 2 15 1) 7 9) [R [m1 (v 36 15 4) .Is (q .none 23 4) 15 12] 8 19 1239] [] 1238 4 1239 27,I (d .Or [m1 (v 36 7 4) .Is (q .none 15 4) 7 12,m1 (v 36 23 4) .Eq (t "limit" 31 7) 23 15] 7 31) [R [q (.bool false) 15 5] 8 12 1241] [] 1240 4 1241 20,F (v 7 8 1) (u [i 1 14 1,i 2 17 1,i 5 20 1] 13 9) [A (u [u [v 16 9 3,v 255 14 5] 8 12,u [v 327 23 5,v 328 30 5] 22 14] 8 28) (u [k 316 40 10 19 [v 36 51 4,v 7 57 1],k 316 61 10 23 [v 36 72 4,b (v 7 78 1) .Add (i 1 82 1) 78 5]] 39 46) 8 77 1243,I (d .Or [m1 (b (b (b (b (v 327 12 5) .Mult (v 255 20 5) 12 13) .Sub (b (v 16 28 3) .Mult (v 328 34 5) 28 11) 12 27) .Mult (v 7 43 1) 11 33) .Mult (b (v 7 48 1) .Add (v 323 52 5) 48 9) 11 47) .NotEq (b (b (b (v 9 62 6) .Mult (v 323 71 5) 62 14) .Mult (v 255 79 5) 62 22) .Mult (v 328 87 5) 62 30) 11 81,m1 (b (v 255 96 5) .Mult (v 328 104 5) 96 13) .Eq (i 0 113 1) 96 18] 11 103) [R [q (.bool false) 19 5] 12 12 1245] [] 1244 8 1245 24] [] 1242 4 1245 24,R [q (.bool true) 11 4] 4 11 1246]
def Fs318:Scope:=s0 (l [317,5]++h [42,2])
def Fs320:Scope:=s0 (l [319,314]++h [25])
def Fs330:Scope:=sf (l [321,317,322,323,36,7,16,255,327,328]++c [324,9,88]++h [55,318,329,325,320,316]) [321,317,322,323,326,36,7,16,255,327,328,324,9,88]
end
theorem zQc (P:Params):zHC (H1 P) ((H1 P).nsMap mainGlobals) (mainGlobals,builtinsNs) 318 ⟨[317,5],Fs318,Fb318⟩:=zQX (a:=1287) (by kernel_rfl) (by kernel_rfl) (fun v0 v1=>by kernel_rfl)
theorem zQb (P:Params):zHC (H1 P) ((H1 P).nsMap mainGlobals) (mainGlobals,builtinsNs) 320 ⟨[319],Fs320,Fb320⟩:=zOo (a:=1294) (by kernel_rfl) (by kernel_rfl) (fun v0=>by kernel_rfl)
theorem zQa (P:Params):zHC (H1 P) ((H1 P).nsMap mainGlobals) (mainGlobals,builtinsNs) 330 ⟨[321],Fs330,Fb330⟩:=zOo (a:=1306) (by kernel_rfl) (by kernel_rfl) (fun v0=>by kernel_rfl)
noncomputable def gcL (x:Nat):Option D:=zAA (Nat.beq x 325) (some sym) (gc x)
theorem law_n (P:Params):conB (H1 P) 325 sym:=by kernel_rfl
theorem zGB (w:World):Wd w (GL w.params) gaP (mgP w.params) gcL:=by
 have W:=zBO w
 refine ⟨W.ns,W.blt,fun x d hx=> ?_,W.nolimit,W.sys⟩
 have hx:zAA (Nat.beq x 325) (some sym) (gc x)=some d:=hx
 cases q:Nat.beq x 325 with
 | false=>rw [q,zAF] at hx; exact W.con x d hx
 | true=>
  rw [q,zAJ] at hx
  cases hx
  have e:=Nat.eq_of_beq_eq_true q
  subst e
  obtain ⟨v,h1,h2⟩:=zFs (w:=w) (law_n w.params)
  exact ⟨v,h1,zPn h2⟩
noncomputable def cdB (h:Heap) (c P:Addr):Bool:=match h.get? c with
 | some o=>(match o.cls with | .type n=>decide (n="code") | _=>false)&&(match o.data with
  | .fields vs=>(match (vs[11]? :Option Value) with | some (.ref p)=>decide (p=P) | _=>false)&&(match vs.getD 11 .none with | .ref p=>decide (p=P) | _=>false)&&(match vs.getD 18 .none with | .str _ _=>true | _=>false)&&
   (match vs.getD 7 .none with | .int _ _=>true | _=>false)&&(match vs.getD 9 .none with | .bool _=>true | _=>false)&&(match vs.getD 10 .none with | .int _ _=>true | _=>false)&& !(c==P)
  | _=>false)
 | none=>false
set_option tactic.hygienic true in
theorem zSh {h:Heap} {c P:Addr} (x:cdB h c P=true):PySem.W.CodeHd h c P:=by
 unfold cdB at x
 split at x
 ·rename_i o ho
  obtain ⟨x1,x2⟩:=Bool.and_eq_true_iff.mp x
  split at x1
  ·rename_i n hn
   split at x2
   ·rename_i vs hd
    simp only [Bool.and_eq_true] at x2
    obtain ⟨⟨⟨⟨⟨⟨y1,y2⟩,y3⟩,y4⟩,y5⟩,y6⟩,y7⟩:=x2
    split at y1
    ·rename_i p hp
     split at y2
     ·rename_i p' hp'
      split at y3
      ·rename_i f tf h3
       split at y4
       ·rename_i fl tg h4
        split at y5
        ·rename_i b h5
         split at y6
         ·rename_i tx tt h6
          exact ⟨o,vs,f,tf,fl,tg,b,tx,tt,ho,by rw [hn,of_decide_eq_true x1],hd,by rw [hp,of_decide_eq_true y1],by rw [hp',of_decide_eq_true y2],h3,h4,h5,h6,by simpa using y7⟩
         ·cases y6
        ·cases y5
       ·cases y4
      ·cases y3
     ·cases y2
    ·cases y1
   ·cases x2
  ·cases x1
 ·cases x
theorem zLx (P:Params):cdB (H1 P) 1305 1303=true:=by kernel_rfl
theorem zQC (P:Params):((zFG (H1 P) 1306).code,(H1 P).nsMap mainGlobals "law")=(.ref 1305,some (.ref 1306)):=by kernel_rfl
noncomputable def bmB (h:Heap) (mg:Str→Option Value):Bool:=match mg "__builtins__" with
 | some (.ref b)=> !(b==builtinsNs)&& !(b==mainGlobals)&& !(b==1303)&&(match h.get? b with
  | some o=>(match o.cls with | .type n=>decide (n="module") | _=>false)&&(match o.dict with | some d=>decide (d=builtinsNs) | none=>false)&&(match o.data with | .plain=>true | _=>false)
  | none=>false)
 | _=>false
set_option tactic.hygienic true in
theorem zSi {h:Heap} {mg:Str→Option Value} (x:bmB h mg=true):h.BuiltinsAt mg 1303:=by
 unfold bmB at x
 split at x
 ·rename_i b hb
  simp only [Bool.and_eq_true] at x
  obtain ⟨⟨⟨y1,y2⟩,y3⟩,y4⟩:=x
  split at y4
  ·rename_i o ho
   simp only [Bool.and_eq_true] at y4
   obtain ⟨⟨z1,z2⟩,z3⟩:=y4
   split at z1
   ·rename_i n hn
    split at z2
    ·rename_i d hd
     split at z3
     ·rename_i hda
      exact ⟨b,o,hb,by simpa using y1,by simpa using y2,by simpa using y3,ho,by rw [hn,of_decide_eq_true z1],by rw [hd,of_decide_eq_true z2],hda⟩
     ·cases z3
    ·cases z2
   ·cases z1
  ·cases y4
 ·cases x
theorem zQD (P:Params):bmB (H1 P) (mgP P)=true:=by kernel_rfl
noncomputable def frT (ys:List Int) (k m:Int):Frm:=[(5, .val (.int m)),(317, .val (.list [.list (ys.map PyData.int), .int k]))]
abbrev tkT:E:=Fb318.tl.hd.e1
abbrev tk1:E:=Fb318.tl.hd.b1.hd.e2.la
abbrev tk2:E:=Fb318.tl.tl.hd.e2.la
section
variable {gcx:Nat→Option D} {call:Nat→List D→Option D}
theorem zHF {fr:Frm} {y m:Int} (hm:0 < m) (h0:(Ev gcx call tkT).t fr=some true) (h:(Ev gcx call tk1).v fr=zCo (Int.fmod (Int.ofNat (zLB y)) m)):
  ∃c r,(Ev gcx call tkT).t fr=some c∧(c=true→(Ev gcx call tk1).v fr=some (.int r))∧(c=false→(Ev gcx call tk2).v fr=some (.int r))∧0≤r∧r < m:=
 ⟨true,_,h0,fun V=>h.trans (zAZ _),fun e=>(by cases e),Int.fmod_nonneg_of_pos _ hm,Int.fmod_lt_of_pos _ hm⟩
theorem zCN {fr:Frm} {r m:Int} (h0:(Ev gcx call tkT).t fr=some false) (h:(Ev gcx call tk2).v fr=some (.int r)) (h1:0≤r) (h2:r < m):
  ∃c r,(Ev gcx call tkT).t fr=some c∧(c=true→(Ev gcx call tk1).v fr=some (.int r))∧(c=false→(Ev gcx call tk2).v fr=some (.int r))∧0≤r∧r < m:=
 ⟨false,r,h0,fun e=>(by cases e),fun V=>h,h1,h2⟩
theorem zIa (ys:List Int) (h:ys.length≤8): ∃c r,(Ev gcx call tkT).t (frT ys 1 3)=some c∧(c=true→(Ev gcx call tk1).v (frT ys 1 3)=some (.int r))∧(c=false→(Ev gcx call tk2).v (frT ys 1 3)=some (.int r))∧0≤r∧r < 3:=by
 rcases ys with _ | ⟨y0,_ | ⟨y1,_ | ⟨y2,_ | ⟨y3,_ | ⟨y4,_ | ⟨y5,_ | ⟨y6,_ | ⟨y7,_ | ⟨y8,r⟩⟩⟩⟩⟩⟩⟩⟩⟩
 ·exact zCN (r:=2) (by kernel_rfl) (by kernel_rfl) (by decide) (by decide)
 all_goals first | (exact absurd h (by simp only [List.length_cons]; lia)) | exact zHF (y:=y0) (by decide) (by kernel_rfl) (by kernel_rfl)
theorem zIZ (ys:List Int) (h:ys.length≤8): ∃c r,(Ev gcx call tkT).t (frT ys 2 3)=some c∧(c=true→(Ev gcx call tk1).v (frT ys 2 3)=some (.int r))∧(c=false→(Ev gcx call tk2).v (frT ys 2 3)=some (.int r))∧0≤r∧r < 3:=by
 rcases ys with _ | ⟨y0,_ | ⟨y1,_ | ⟨y2,_ | ⟨y3,_ | ⟨y4,_ | ⟨y5,_ | ⟨y6,_ | ⟨y7,_ | ⟨y8,r⟩⟩⟩⟩⟩⟩⟩⟩⟩
 ·exact zCN (r:=1) (by kernel_rfl) (by kernel_rfl) (by decide) (by decide)
 ·exact zCN (r:=1) (by kernel_rfl) (by kernel_rfl) (by decide) (by decide)
 all_goals first | (exact absurd h (by simp only [List.length_cons]; lia)) | exact zHF (y:=y1) (by decide) (by kernel_rfl) (by kernel_rfl)
theorem zIY (ys:List Int) (h:ys.length≤8): ∃c r,(Ev gcx call tkT).t (frT ys 3 4)=some c∧(c=true→(Ev gcx call tk1).v (frT ys 3 4)=some (.int r))∧(c=false→(Ev gcx call tk2).v (frT ys 3 4)=some (.int r))∧0≤r∧r < 4:=by
 rcases ys with _ | ⟨y0,_ | ⟨y1,_ | ⟨y2,_ | ⟨y3,_ | ⟨y4,_ | ⟨y5,_ | ⟨y6,_ | ⟨y7,_ | ⟨y8,r⟩⟩⟩⟩⟩⟩⟩⟩⟩
 ·exact zCN (r:=0) (by kernel_rfl) (by kernel_rfl) (by decide) (by decide)
 ·exact zCN (r:=0) (by kernel_rfl) (by kernel_rfl) (by decide) (by decide)
 ·exact zCN (r:=0) (by kernel_rfl) (by kernel_rfl) (by decide) (by decide)
 all_goals first | (exact absurd h (by simp only [List.length_cons]; lia)) | exact zHF (y:=y2) (by decide) (by kernel_rfl) (by kernel_rfl)
end
section
variable {prog:Program} {w:World} {rc:Nat} {A:Around} {env:Env} {Z X O:Addr→Prop} {fr fr':Frm} {s s':Shared}
theorem FC.reset (F:FC w (GG w) gaP A env Z X O none fr s rc) (g: ∀a o,(GG w).get? a=some o→s'.heap.get? a=some o) (lv: ∀a,PP Z X O a→∃o,s'.heap.get? a=some o) (cl: ∀n c v,env.cells.lookup n=some c→s.heap.IsCell c v→∃v',s'.heap.IsCell c v')
  (cv: ∀n,env.kindOf n=some .cell→∀c v,env.cells.lookup n=some c→s.heap.IsCell c v→∃v',s'.heap.IsCell c v')
  (names: ∃m',s'.heap.Ns env.locals m'∧∀x sl,zAE x fr'=some sl→kN env.scope x=some .local∨kN env.scope x=some .cell→∃v d,sl= .val d∧Holds env s'.heap m' x v∧RdW (PP Z X O) s'.heap v d) (vals: ∀x sl,zAE x fr'=some sl→∃d,sl= .val d) (hand:zAG A s'.heap):FC w (GG w) gaP A env Z X O none fr' s' rc:=by
 obtain ⟨m',n2,hv⟩:=names
 refine ⟨⟨fun a o h=>⟨g a o h,(F.fw.glob a o h).2⟩,lv,F.fw.dO,F.fw.dX,F.fw.kind,F.fw.loc,fun n hn=> ?_,F.fw.cset,fun n c h=> ?_,F.fw.cinj,F.fw.cw,m',n2,fun x sl h hx=> ?_,fun V x y dx dy v u V h1=> ?_⟩,hand,F.hp,F.gl,F.dep,F.un⟩
 ·obtain ⟨c,v,h1,h2⟩:=F.fw.cells n hn
  obtain ⟨v',h3⟩:=cv n hn c _ h1 h2
  obtain ⟨v0,h4⟩:=F.fw.ccell n c h1
  exact ⟨c,v',h1,h3⟩
 ·obtain ⟨v,h2⟩:=F.fw.ccell n c h
  exact cl n c _ h h2
 ·obtain ⟨v,d,rfl,h1,h2⟩:=hv x sl h hx
  exact ⟨v,h1,h2⟩
 ·obtain ⟨d,h3⟩:=vals x _ h1
  cases h3
end
noncomputable def S.v:S→E | .asgS _ _ _ _ e _ _=>e | _=> .nil
noncomputable def S.ix:S→E | .asgS _ _ i _ _ _ _=>i | _=> .nil
abbrev tkV:E:=Fb318.hd.v
abbrev tkI:E:=Fb318.hd.ix
theorem zJX:zCW nm (Fn.mk [317,5] Fs318 Fb318).body=[.Assign [.Subscript (.Name (nm 317) ⟨1206,4,1206,7⟩) (up nm tkI) ⟨1206,4,1206,10⟩] (up nm tkV) ⟨1206,4,1206,23⟩, .If (up nm tkT) [.Return (some (up nm tk1)) ⟨1208,8,1208,45⟩] [] ⟨1207,4,1208,45⟩, .Return (some (up nm tk2)) ⟨1209,4,1209,44⟩]:=by kernel_rfl
theorem zIA {P P':Addr→Prop} {h h':Heap}: ∀{ys:List Int} {vs:List Value},zAK P h vs (ys.map PyData.int)→zAK P' h' vs (ys.map PyData.int)
 | [],[],_=> .nil
 | [],_ :: _,r=>by cases r
 | y :: ys,[],r=>by cases r
 | y :: ys,v :: vs,r=>by
  cases r with
  | cons a b=>
   obtain ⟨t,rfl⟩:=a.intInv
   exact .cons (.int y t) (zIA b)
theorem zFi {ys:List Int} {k m:Int} {x:Nat} {sl:Slot} (h:zAE x (frT ys k m)=some sl):(x=5∧sl= .val (.int m))∨(x=317∧sl= .val (.list [.list (ys.map PyData.int), .int k])):=by
 have h:zAA (Nat.beq 5 x) (some (Slot.val (.int m))) (zAA (Nat.beq 317 x) (some (Slot.val (.list [.list (ys.map PyData.int), .int k]))) none)=some sl:=h
 cases q:Nat.beq 5 x with
 | true=>rw [q,zAJ] at h; cases h; exact .inl ⟨(Nat.eq_of_beq_eq_true q).symm,rfl⟩
 | false=>
  rw [q,zAF] at h
  cases q':Nat.beq 317 x with
  | true=>rw [q',zAJ] at h; cases h; exact .inr ⟨(Nat.eq_of_beq_eq_true q').symm,rfl⟩
  | false=>rw [q',zAF] at h; cases h
section
variable {prog:Program} {w:World} {call:Nat→List D→Option D} {rc:Nat}
def zDh (prog:Program) (w:World) (rc:Nat) (k k' m:Int):Prop:=∃a o fd,mgP w.params (nm 318)=some (.ref a)∧(GG w).get? a=some o∧o.data= .func fd∧
 ∀(A:Around) (P:Addr→Prop) (s:Shared) (b l:Addr) (t:Tok) (c:Nat) (tm:Tok) (ys:List Int) (Q:Value→Shared→Prop) (E:Value→Shared→Prop),(∀a o,(GG w).get? a=some o→s.heap.get? a=some o∧¬P a)→(∀a,P a→∃o,s.heap.get? a=some o)→A.handled=none→A.depth + rc≤900→A.units + 16 * rc + 200≤9800→
  s.heap.get? b=some (zBz #[.ref l, .int k t] c)→¬P b→(GG w).get? b=none→l≠b→RdW P s.heap (.ref l) (.list (ys.map PyData.int))→ys.length≤8→
  (∀r t' s' t'' c',0≤r→r < m→zAC (· =b) s s'→s'.heap.get? b=some (zBz #[.ref l, .int k' t''] c')→Q (.int r t') s')→wpAny (model prog w) A (PySem.call (.ref a) [.ref b, .int m tm]) Q E s
theorem zHG (hc:zAW prog w (GG w) (mgP w.params) call rc) {k k' m:Int} (hval: ∀ys:List Int,(Ev gc call tkV).v (frT ys k m)=some (.int k'))
  (ev: ∀ys:List Int,ys.length≤8→∃c r,(Ev gc call tkT).t (frT ys k' m)=some c∧(c=true→(Ev gc call tk1).v (frT ys k' m)=some (.int r))∧(c=false→(Ev gc call tk2).v (frT ys k' m)=some (.int r))∧0≤r∧r < m):zDh prog w (rc + 1) k k' m:=by
 have ae:=zEo (rc:=rc) (zBO w) hc zAj
 obtain ⟨a,o,fd,e1,e2,e3,enter⟩:=zBo (rc:=rc) (prog:=prog) (zBO w) (zQc _).gl (by decide +kernel)
 refine ⟨a,o,fd,e1,e2,e3, ?_⟩
 intro A P s b l t c tm ys Q E glob live hand dep un hb hbP hbG hlb rl hlen hQ
 refine enter A P s [.ref b, .int m tm] Q E glob live (.inl hand) (fun b hb=> ?_) dep un rfl fun env s₁ O K hnew hsc hgl hf ⟨m0,hn,hold⟩ hFC=> ?_
 ·unfold zAQ at hb; rw [hand] at hb; cases hb
 have hsc:env.scope=Fs318:=hsc
 have F:=hFC (frT ys k m) fun x sl e=>by
  rcases zFi e with ⟨rfl,rfl⟩ | ⟨rfl,rfl⟩
  ·exact ⟨.int m tm, .int m,rfl,by simp, .int m tm⟩
  ·exact ⟨.ref b,_,rfl,by simp, .list hb hbP (.cons rl (.cons (.int k t) .nil))⟩
 have hk:env.scope.kind= .function:=F.fw.kind
 have l0:kN env.scope 317=some .local:=by rw [hsc]; decide +kernel
 have l1:kN env.scope 5=some .local:=by rw [hsc]; decide +kernel
 have loc: ∀{x:Nat} {v:Value},Holds env s₁.heap m0 x v→kN env.scope x=some .local→m0 (nm x)=some v:=fun h hl=>by
  rcases h with h | h
  ·exact h.2
  ·rw [hl] at h; cases h.1
 have m1:m0 (nm 317)=some (.ref b):=loc (hold 317 (.ref b) (by simp)) l0
 have m2:m0 (nm 5)=some (.int m tm):=loc (hold 5 (.int m tm) (by simp)) l1
 have nO: ¬O b:=fun q=>by rw [hnew b q] at hb; cases hb
 have nPP: ¬PP P (fun V=>False) O b:=fun q=>q.elim hbP fun q=>q.elim id nO
 have hbL:b≠env.locals:=fun q=>nO (q▸F.fw.loc)
 rw [zJX]
 refine wpAny_execs_cons (wpAny_Assign_Subscript ?_ (zGG (zKH (hval ys)) (zAk (hval ys)) _ _))
 refine (ae _).se.v _ env _ _ s₁ _ _ _ F.cx (by rw [hsc]; decide +kernel) (hval ys) fun v s2 q1 r1=> ?_
 obtain ⟨t2,rfl⟩:=r1.intInv
 refine zKP hk l0 (hn.keeps fun V V e=>Keeps.get q1 e) m1 ?_
 refine (ae _).se.v _ env _ _ s2 _ _ (.int 1) (F.keeps q1).cx (by rw [hsc]; decide +kernel) (by kernel_rfl) fun v s3 q2 r2=> ?_
 obtain ⟨t3,rfl⟩:=r2.intInv
 have q12:=Keeps.trans q1 q2
 have K3:=Keeps.trans K q12
 refine zEF (k:=1) (Keeps.get K3 hb) (by simp) (by simp) fun h4 c4 g4 hs4=> ?_
 have g4:({s3 with heap:=h4}:Shared).heap.get? b=some (zBz #[.ref l, .int k' t2] c4):=g4
 have kb:zAC (· =b) s3 {s3 with heap:=h4}:=zAC.same (s:=s3) (t:=s3.toks) hs4 rfl
 generalize ({s3 with heap:=h4}:Shared)=s4 at g4 kb
 have F3:=F.keeps q12
 have F4:FC w (GG w) gaP (A.deeper env) env P (fun V=>False) O none (frT ys k' m) s4 rc:=by
  refine F3.reset (fun a o e=>kb.get (fun q=>by rw [q,hbG] at e; cases e) (F3.fw.glob a o e).1) (fun a h=> ?_) (fun n c v e h=> ?_) (fun n V c v e h=> ?_) ⟨m0, ?_,fun x sl e V=> ?_⟩ (fun x sl e=> ?_) (.inl hand)
  ·obtain ⟨o,ho⟩:=F3.fw.live a h
   exact ⟨o,kb.get (fun q=>nPP (q▸h)) ho⟩
  ·obtain ⟨o,ho,hd⟩:=h
   refine ⟨v,o,kb.get (fun q=> ?_) ho,hd⟩
   exact nPP (q▸(F3.fw.cset n c e).elim (fun x=> .inr (.inr x)) .inl)
  ·obtain ⟨o,ho,hd⟩:=h
   refine ⟨_,o,kb.get (fun q=> ?_) ho,hd⟩
   exact nPP (q▸(F3.fw.cset n c e).elim (fun x=> .inr (.inr x)) .inl)
  ·obtain ⟨o,es,ep,ho,r⟩:=hn
   exact ⟨o,es,ep,kb.get hbL.symm (Keeps.get q12 ho),r⟩
  ·rcases zFi e with ⟨rfl,rfl⟩ | ⟨rfl,rfl⟩
   ·exact ⟨.int m tm, .int m,rfl, .inl ⟨l1,m2⟩, .int m tm⟩
   ·refine ⟨.ref b,_,rfl, .inl ⟨l0,m1⟩, .list g4 nPP (.cons ?_ (.cons (.int k' t2) .nil))⟩
    obtain ⟨l',vs,n,e',gl,hl,rr⟩:=rl.listInv
    cases e'
    refine .list (kb.get hlb (Keeps.get K3 gl)) (fun q=>q.elim hl fun q=>q.elim id fun q=> ?_) (zIA rr)
    rw [hnew _ q] at gl; cases gl
  ·rcases zFi e with ⟨_,rfl⟩ | ⟨_,rfl⟩ <;> exact ⟨_,rfl⟩
 obtain ⟨cc,r,h5,h6,h7,h8,h9⟩:=ev ys hlen
 have kbs:zAC (· =b) s s4:=(zAC.of (O:=(· =b)) K3).trans kb fun V V V h=>h
 have fin: ∀v s',Keeps s4 s'→RdW (PP P (fun V=>False) O) s'.heap v (.int r)→Q v s':=fun v s' q rv=>by
  obtain ⟨tr,rfl⟩:=rv.intInv
  exact hQ r tr s' t2 c4 h8 h9 (kbs.trans (zAC.of (O:=(· =b)) q) fun V V V h=>h) (Keeps.get q g4)
 refine wpAny_execs_cons (wpAny_If ((ae tkT).se.t _ env _ _ s4 _ _ cc F4.cx (by rw [hsc]; decide +kernel) h5 fun s5 q5=> ?_))
 have F5:=F4.keeps q5
 induction cc with
 | true=>
  rw [if_pos rfl]
  exact wpAny_execs_cons (wpAny_Return_some ((ae tk1).se.v _ env _ _ s5 _ _ _ F5.cx (by rw [hsc]; decide +kernel) (h6 rfl) fun v s6 q6 r6=>fin v s6 (Keeps.trans q5 q6) r6))
 | false=>
  rw [if_neg (by simp)]
  refine wpAny_execs_nil (wpAny_execs_cons (wpAny_Return_some ((ae tk2).se.v _ env _ _ s5 _ _ _ F5.cx (by rw [hsc]; decide +kernel) (h7 rfl) fun v s6 q6 r6=>fin v s6 (Keeps.trans q5 q6) r6)))
theorem take0 (hc:zAW prog w (GG w) (mgP w.params) call rc):zDh prog w (rc + 1) 0 1 3:=zHG hc (fun ys=>by kernel_rfl) zIa
theorem take1 (hc:zAW prog w (GG w) (mgP w.params) call rc):zDh prog w (rc + 1) 1 2 3:=zHG hc (fun ys=>by kernel_rfl) zIZ
theorem take2 (hc:zAW prog w (GG w) (mgP w.params) call rc):zDh prog w (rc + 1) 2 3 4:=zHG hc (fun ys=>by kernel_rfl) zIY
end
section
variable {prog:Program} {w:World} {rc:Nat}
def zPF (prog:Program) (w:World) (rc:Nat) (v:Value) (vs:List Value) (P0:Addr→Prop) (s:Shared) (res:Option D):Prop:=
 ∀(A:Around) (P:Addr→Prop) (l:List Env) (s':Shared) (Q:Value→Shared→Prop) (E:Value→Shared→Prop),Keeps s s'→(∀a,P0 a→P a)→(∀a,P a→P0 a∨s.heap.get? a=none)→(∀a o,(GG w).get? a=some o→s'.heap.get? a=some o∧¬P a)→(∀a,P a→∃o,s'.heap.get? a=some o)→
  A.handled=none→A.frames=some l→s'.heap.FunFrames zBR l→(∀b∈frs l,P b)→A.depth + rc≤900→A.units + 16 * rc + 200≤9800→
  (∀d v s'',res=some d→zSt l s' s''→RdW P s''.heap v d→Q v s'')→(res=none→∀e s'',Fly l s' .none e s''→E (.ref e) s'')→wpAny (model prog w) A (PySem.call v vs) Q E s'
noncomputable abbrev zNm:Stmt:= .Return (some (.Call (.Name "work" ⟨1212,15,1212,19⟩) [] [] ⟨1212,15,1212,21⟩)) ⟨1212,8,1212,21⟩
noncomputable abbrev zNn:Stmt:= .Return (some (.Attribute (.Name "wrong" ⟨1214,15,1214,20⟩) "kind" ⟨1214,15,1214,25⟩)) ⟨1214,8,1214,25⟩
theorem zJV:zCW nm (Fn.mk [319] Fs320 Fb320).body=[.Try [zNm] [.ExceptHandler (some (.Name "CasFail" ⟨1213,11,1213,18⟩)) (some "wrong") [zNn] ⟨1213,4,1214,25⟩] [] [] ⟨1211,4,1214,25⟩]:=by kernel_rfl
theorem zNl: ∃a o fd,mgP w.params (nm 320)=some (.ref a)∧(GG w).get? a=some o∧o.data= .func fd∧∀(f:Addr) (fo:Obj) (fd:FuncData) (P0:Addr→Prop) (s:Shared) (res:Option D),s.heap.get? f=some fo→fo.data= .func fd→zPF prog w rc (.ref f) [] P0 s res→
  zPF prog w (rc + 1) (.ref a) [.ref f] P0 s (some (res.getD (.str "limit"))):=by
 obtain ⟨a,o,fd,e1,e2,e3,enter⟩:=zBo (rc:=rc) (prog:=prog) (zBO w) (zQb _).gl (by decide +kernel)
 refine ⟨a,o,fd,e1,e2,e3, ?_⟩
 intro f fo fd P0 s res hfo hfd lam
 intro A P l s' Q E ks hP0 hP1 glob live hand hfs hl hP dep un hQ hE
 refine enter A P s' [.ref f] Q E glob live (.inl hand) (fun b hb=> ?_) dep un rfl fun env s₁ O K hnew hsc hgl ⟨hf,_⟩ ⟨m0,hn,hold⟩ hFC=> ?_
 ·unfold zAQ at hb; rw [hand] at hb; cases hb
 have hsc:env.scope=Fs320:=hsc
 have F:=hFC [] fun x sl e=>by cases e
 have hk:env.scope.kind= .function:=F.fw.kind
 have kW:env.kindOf "wrong"=some .local:=by unfold Env.kindOf; rw [hsc]; decide +kernel
 have kK:env.kindOf "work"=some .local:=by unfold Env.kindOf; rw [hsc]; decide +kernel
 have kC:env.kindOf "CasFail"=some .globalImplicit:=by unfold Env.kindOf; rw [hsc]; decide +kernel
 have d1:((("wrong":Str))==("__debug__":Str))=false:=by decide +kernel
 have d2:((("work":Str))==("__debug__":Str))=false:=by decide +kernel
 have mW:m0 "work"=some (.ref f):=by
  have l1:kN env.scope 319=some .local:=by rw [hsc]; decide +kernel
  rcases hold 319 (.ref f) (by simp) with h | h
  ·exact h.2
  ·rw [l1] at h; cases h.1
 have hfr:=Around.frames_deeper (env:=env) hfs
 have hnl:s'.heap.get? env.locals=none:=hnew _ F.fw.loc
 have hl1:s₁.heap.FunFrames zBR (env :: l):=Heap.FunFrames.cons (by rw [hk]; simp) hf hn rfl (hl.of_keeps fun b o ho V=>⟨o,Keeps.get K ho,rfl⟩)
 have hlv1: ∃o,s₁.heap.get? env.locals=some o:=by obtain ⟨o,_,_,ho,_⟩:=hn; exact ⟨o,ho⟩
 have sub: ∀b∈frs (env :: l),PP P (fun V=>False) O b:=fun b hb=>by
  unfold frs at hb
  rw [List.filterMap_cons,hf] at hb
  rcases List.mem_cons.mp hb with q | q
  ·rw [q]; exact .inr (.inr F.fw.loc)
  ·exact .inl (hP b q)
 have notF: ∀b o,s'.heap.get? b=some o→b ∉ frs l→b ∉ frs (env :: l):=fun b o ho hb q=>by
  unfold frs at q
  rw [List.filterMap_cons,hf] at q
  rcases List.mem_cons.mp q with q | q
  ·rw [q,hnl] at ho; cases ho
  ·exact hb q
 rw [zJV]
 refine wpAny_execs_cons (wpAny_Try_except ?_)
 refine wpAny_execs_cons (wpAny_Return_some ?_)
 refine wpAny_Call_Name_kw (zEQ hk kK hn mW ?_ d2)
 refine callWith_meth0 hfd (Keeps.get K (Keeps.get ks hfo)) ?_
 refine lam (A.deeper env) (PP P (fun V=>False) O) (env :: l) s₁ _ _ (Keeps.trans ks K) (fun a h=> .inl (hP0 a h)) (fun a h=> ?_) F.fw.glob F.fw.live hand hfr hl1 sub (by have:=F.dep; exact this) (by have:=F.un; exact this) (fun d v s2 hres af rv=> ?_) fun hres e s2 fl=> ?_
 ·rcases h with h | h | h
  ·exact hP1 a h
  ·exact h.elim
  ·right
   cases q:s.heap.get? a with
   | none=>rfl
   | some o=>have:=Keeps.get ks q; rw [hnew a h] at this; cases this
 ·obtain ⟨same,af1,af2⟩:=af
  refine hQ d v s2 (by rw [hres]; rfl) ⟨?_,fun b o hb ho=>af1 b o (notF b o ho hb) (Keeps.get K ho),fun b o ho=>af2 b o (Keeps.get K ho)⟩ (rv.step (fun V V V q=>q) fun b V V q=> .inl q)
  obtain ⟨h',t',q⟩:=same; obtain ⟨h'',t'',q',_⟩:=K
  rw [q,q']; exact ⟨_,_,rfl⟩
 ·refine zDr hfr (FunFrames.slots fl.slots hl1) hf fl (fun b hb=> .inl hb) fun s4 fl4 V=> ?_
  refine zBD none fl4 (.inr rfl) fun s5 fl5 V=> ?_
  have G5:zHB w.params s5:=fun a o h=>fl5.keep a o (fun q=>(F.fw.glob a o h).2 (sub a q)) (F.fw.glob a o h).1
  refine zFB G5 fl5 hk hgl kC ?_
  refine zBD none fl5 (.inr rfl) fun s6 fl6 V=> ?_
  have hns6:s6.heap.Ns env.locals m0:=by
   obtain ⟨o,es,ep,ho,r⟩:=hn
   obtain ⟨sl,h⟩:=fl6.slots _ o ho
   exact ⟨_,es,ep,h,r⟩
  refine wpAny_storeName_local kW hns6 (fun h7 hn7 hs7=> ?_) (by rw [hk]; rfl)
  have kb7:zAC (· =env.locals) s6 {s6 with heap:=h7,toks:=s6.toks + 1}:=zAC.same hs7 rfl
  have B7:zFw env l s' .none e {s6 with heap:=h7,toks:=s6.toks + 1}:=zFw.bind ⟨s₁,K,hlv1,fl6⟩ hf hnl kb7 (by obtain ⟨o,_,_,ho,_⟩:=hn7; exact ⟨o,ho⟩)
  have hn7:({s6 with heap:=h7,toks:=s6.toks + 1}:Shared).heap.Ns env.locals (fun x=>if x="wrong" then some (.ref e) else m0 x):=hn7
  have G7:zHB w.params {s6 with heap:=h7,toks:=s6.toks + 1}:=fun a o h=>kb7.get (fun q=>(F.fw.glob a o h).2 (q▸ .inr (.inr F.fw.loc))) (fl6.keep a o (fun q=>(F.fw.glob a o h).2 (sub a q)) (F.fw.glob a o h).1)
  generalize ({s6 with heap:=h7,toks:=s6.toks + 1}:Shared)=s7 at kb7 B7 hn7 G7
  have B:=B7.back hf hnl
  refine wpAny_execs_cons (wpAny_Return_some (Attribute_name (zEQ hk kW hn7 (if_pos rfl) (zIU G7 B fun tk=> ?_) d1)))
  refine wpAny_nameGoes_keeps kW (s:={s7 with toks:=s7.toks + 1}) hn7 (by rw [hk]; rfl) fun h8 v8 hn8 hs8=> ?_
  have kb8:zAC (· =env.locals) s7 {s7 with heap:=h8,toks:=s7.toks + 1 + 1}:=zAC.same hs8 rfl
  refine hQ (.str "limit") (.str "limit" tk) _ (by rw [hres]; rfl) ⟨?_,fun b o hb ho=>kb8.get (fun q=>by rw [q,hnl] at ho; cases ho) (B.keep b o hb ho),fun b o ho=> ?_⟩ (.str _ _ (by decide +kernel))
  ·obtain ⟨h',t',q⟩:=B.same
   rw [q]; exact ⟨_,_,rfl⟩
  ·obtain ⟨sl,h⟩:=B.slots b o ho
   exact ⟨sl,kb8.get (fun q=>by rw [q,hnl] at ho; cases ho) h⟩
end
noncomputable abbrev noArgs:Arguments:={posonlyargs:=[],args:=[],vararg:=none,kwonlyargs:=[],kw_defaults:=[],kwarg:=none,defaults:=[]}
section
variable {prog:Program} {w:World} {rc:Nat}
theorem zMA {ds:List D} {res:Option D} (ind:zDm prog w rc 315 ds res) {f c':Addr} {ctv pm:Value} {qual:Str} {scope:Scope} {clos:List (Str×Addr)} {e:Expr} {rest:List Expr} {p1 pos:Pos} {s:Shared} {P0:Addr→Prop}
  (hf:s.heap.get? f=some (kla_obj "<lambda>" qual noArgs (.Call (.Name "indefinite_sum" p1) (e :: rest) [] pos) scope clos pm c' ctv)) (hcd:s.heap.CodeRec (.ref c') qual) (he: ∀env,starEach (e :: rest) env=(false,eval e env) :: starEach rest env)
  (hk:scope.kind= .function) (hco:scope.isCoroutine=false) (hge:scope.isGenerator=false) (hcell: ∀x∈scope.names,x.2≠ .cell) (hi:scope.names.lookup ("indefinite_sum":Str)=some .globalImplicit)
  (hargs: ∀(A:Around) (env:Env) (P:Addr→Prop) (s':Shared) (Q:List Value→Shared→Prop) (E:Value→Shared→Prop),env.scope=scope→env.cells=clos→A.units + 62 < cLine→Keeps s s'→(∀a,P a→P0 a∨s.heap.get? a=none)→(∀a,P a→∃o,s'.heap.get? a=some o)→(∀vs s₁,Keeps s' s₁→zAK P s₁.heap vs ds→Q vs s₁)→wpAny (model prog w) A (spliced (backTo pos (starEach (e :: rest) env))) Q E s'):
  zPF prog w (rc + 1) (.ref f) [] P0 s res:=by
 obtain ⟨hne,ia,io,ifd,i1,i2,i3,sp⟩:=ind
 intro A P l s' Q E ks hP0 hP1 glob live hand hfs hl hP dep un hQ hE
 have d1:((("indefinite_sum":Str))==("__debug__":Str))=false:=by decide +kernel
 have hlim:s'.heap.NoLimit:=by obtain ⟨mc,n1,n2⟩:=(zBO w).nolimit; exact ⟨mc,n1.keeps fun a o e=>(glob a o e).1,n2⟩
 refine wpAny_call (kla_callFunE (by show A.depth < 1000; lia) (Keeps.get ks hf) rfl hco hge rfl (hcd.keeps fun V V e=>Keeps.get ks e) ?_)
 rw [show bindArgs (kla_fn "<lambda>" qual noArgs (.Call (.Name "indefinite_sum" p1) (e :: rest) [] pos) scope clos pm (.ref c') ctv) ⟨[],[]⟩=(pure []:Sem (List (Str×Value))) from rfl]
 refine wpAny_pure (wpAny_newFunctionEnv hcell (fun x hx=>by cases hx) (fun h₁ hns hsb=>⟨hlim.fresh _ hsb, ?_⟩) hk)
 refine kla_codeExpr ?_
 have hk₁: ∀b o,s'.heap.get? b=some o→h₁.get? b=some o:=fun b o e=>hsb.extBut b o (Nat.ne_of_lt (Heap.lt_size e)) (Heap.get?_push_of_some _ e)
 have hLn:s'.heap.get? s'.heap.objs.size=none:=Heap.get?_none_of_le (Nat.le_refl _)
 generalize hL:s'.heap.objs.size=L at hns hLn ⊢
 have K1:Keeps s' {s' with heap:=h₁,toks:=s'.toks + ([]:List (Str×Value)).length}:=⟨h₁,_,rfl,hk₁⟩
 have hns:({s' with heap:=h₁,toks:=s'.toks + ([]:List (Str×Value)).length}:Shared).heap.Ns L _:=hns
 generalize ({s' with heap:=h₁,toks:=s'.toks + ([]:List (Str×Value)).length}:Shared)=s1 at K1 hns
 show wpAny _ (A.deeper (newEnv scope L mainGlobals clos (qual++".<locals>.") (some f) (.ref c') none builtinsNs)) (eval _ (newEnv scope L mainGlobals clos (qual++".<locals>.") (some f) (.ref c') none builtinsNs)) _ _ s1
 generalize henv:newEnv scope L mainGlobals clos (qual++".<locals>.") (some f) (.ref c') none builtinsNs=env
 have e1:env.scope=scope:=by rw [←henv]; rfl
 have e2:env.cells=clos:=by rw [←henv]; rfl
 have e3:env.frame=some L:=by rw [←henv]; rfl
 have e4:env.globals=mainGlobals∧env.builtins=builtinsNs:=by rw [←henv]; exact ⟨rfl,rfl⟩
 have hkf:env.scope.kind= .function:=by rw [e1]; exact hk
 have hfr:=Around.frames_deeper (env:=env) hfs
 have live1: ∀a,P a∨a=L→∃o,s1.heap.get? a=some o:=fun a h=>by
  rcases h with h | rfl
  ·obtain ⟨o,ho⟩:=live a h; exact ⟨o,Keeps.get K1 ho⟩
  ·obtain ⟨o,_,_,ho,_⟩:=hns; exact ⟨o,ho⟩
 have G1: ∀a o,(GG w).get? a=some o→s1.heap.get? a=some o∧¬(P a∨a=L):=fun a o h=>⟨Keeps.get K1 (glob a o h).1,fun q=>q.elim (glob a o h).2 fun q=>by rw [←q,(glob a o h).1] at hLn; cases hLn⟩
 refine wpAny_Call_Name_kw (zIn (w:=w) (fun a o h=>(G1 a o h).1) hkf e4 (by unfold Env.kindOf; rw [e1]; exact hi) (show mgP w.params ("indefinite_sum":Str)=some (.ref ia) from i1) ?_ d1)
 refine callWith_def i3 ?_ (he env)
 refine hargs (A.deeper env) env (fun a=>P a∨a=L) s1 _ _ e1 e2 (by show A.units + 3 + 62 < 9900; lia) (Keeps.trans ks K1) (fun a h=> ?_) live1 fun vs s2 k2 rs=>⟨Keeps.get k2 (G1 _ _ i2).1, ?_⟩
 ·rcases h with h | rfl
  ·exact hP1 a h
  ·right
   cases q:s.heap.get? a with
   | none=>rfl
   | some o=>have:=Keeps.get ks q; rw [hLn] at this; cases this
 have hl2:s2.heap.FunFrames zBR (env :: l):=Heap.FunFrames.cons (by rw [hkf]; simp) e3 (hns.keeps fun V V h=>Keeps.get k2 h) rfl (hl.of_keeps fun b o ho V=>⟨o,Keeps.get k2 (Keeps.get K1 ho),rfl⟩)
 have K2:Keeps s' s2:=Keeps.trans K1 k2
 have notF: ∀b o,s'.heap.get? b=some o→b ∉ frs l→b ∉ frs (env :: l):=fun b o ho hb q=>by
  unfold frs at q
  rw [List.filterMap_cons,e3] at q
  rcases List.mem_cons.mp q with q | q
  ·rw [q,hLn] at ho; cases ho
  ·exact hb q
 refine sp (A.deeper env) (fun a=>P a∨a=L) (env :: l) s2 vs _ _ (fun a o h=>⟨Keeps.get k2 (G1 a o h).1,(G1 a o h).2⟩) (fun a h=>by obtain ⟨o,ho⟩:=live1 a h; exact ⟨o,Keeps.get k2 ho⟩) hand hfr hl2 (fun b hb=> ?_) (by show A.depth + 1 + rc≤900; lia) (by show A.units + 3 + 16 * rc + 200≤9800; lia) rs (fun d v s3 hres af rv=> ?_) fun hres e s3 fl=> ?_
 ·unfold frs at hb
  rw [List.filterMap_cons,e3] at hb
  rcases List.mem_cons.mp hb with q | q
  ·exact .inr q
  ·exact .inl (hP b q)
 ·obtain ⟨same,af1,af2⟩:=af
  refine hQ d v s3 hres ⟨?_,fun b o hb ho=>af1 b o (notF b o ho hb) (Keeps.get K2 ho),fun b o ho=>af2 b o (Keeps.get K2 ho)⟩ (rv.step (fun V V V q=>q) fun b V V q=> .inl q)
  obtain ⟨h',t',q⟩:=same; obtain ⟨h'',t'',q',_⟩:=K2
  rw [q,q']; exact ⟨_,_,rfl⟩
 ·exact zGl hfr (FunFrames.slots fl.slots hl2) e3 fl (fun b hb=> .inl hb) fun s4 fl4=>hE hres e s4 (fl4.back K2 fun L' hL'=>by rw [e3] at hL'; cases hL'; exact hLn)
end
section
variable {prog:Program} {w:World} {rc:Nat} {A:Around} {env:Env} {E:Value→Shared→Prop} {s:Shared}
theorem zNE (P:Params) {h:Heap} (G: ∀a o,(GL P).get? a=some o→h.get? a=some o):CodeHd h 1305 1303:=by
 obtain ⟨o,vs,f,tf,fl,tg,b,tx,tt,ho,hc,r⟩:=zSh (zLx P)
 exact ⟨o,vs,f,tf,fl,tg,b,tx,tt,G _ _ (zFh ho fun q=>by rw [q] at hc; cases hc),hc,r⟩
theorem zPP (P:Params) {h:Heap} (G: ∀a o,(GL P).get? a=some o→h.get? a=some o):h.BuiltinsAt (mgP P) 1303:=by
 obtain ⟨b,o,h1,h2,h3,h4,h5,h6,r⟩:=zSi (zQD P)
 exact ⟨b,o,h1,h2,h3,h4,G _ _ (zFh h5 fun q=>by rw [q] at h6; cases h6),h6,r⟩
theorem zLz {M:Model} {body:Expr} {scope:Scope} {pos:Pos} {clos:List (Str×Addr)} {Q:Value→Shared→Prop} (G:zHB w.params s) (hg:env.globals=mainGlobals) (hcode:env.code= .ref 1305) (htab:s.heap.get? 1303=some zJK) (hcl:closureFor scope env=pure clos)
  (hQ: ∀f c' ctv pm s',(∃h' t',s'={s with heap:=h',toks:=t'})→zAC (· =1303) s s'→s.heap.get? f=none→s'.heap.get? f=some (kla_obj "<lambda>" (env.qual++"<lambda>") noArgs body scope clos pm c' ctv)→s'.heap.CodeRec (.ref c') (env.qual++"<lambda>")→
   s'.heap.get? 1303=some (tabObj (#[]++ #[rawInt pos.line,rawInt pos.col, .ref c']))→Q (.ref f) s'):wpAny M A (eval (.Lambda noArgs body scope pos) env) Q E s:=by
 have n1:=(zBO w).ns
 refine kla_eval rfl (kla_makeFunction (mg:=mgP w.params) hcl hg (n1.keeps G) hcode (zNE w.params G) htab trivial rfl (by decide) (zPP w.params G) fun c' ctv h' tk hx hge hlt hrec htb=> ?_)
 have hle:s.heap.objs.size≤h'.objs.size:=Nat.le_of_lt (Nat.lt_of_le_of_lt hge hlt)
 refine hQ h'.objs.size c' ctv _ _ ⟨_,_,rfl⟩ ⟨_,_,rfl,fun a o ha e=>Heap.get?_push_of_some _ (hx a o ha e)⟩ (Heap.get?_none_of_le hle) (Heap.get?_push_size _ rfl) ?_ (Heap.get?_push_of_some _ htb)
 exact hrec.keeps fun V V e=>Heap.get?_push_of_some _ e
theorem asg2 {Z X O:Addr→Prop} {fr:Frm} {x1 x2:Nat} {c1 c2:Expr} {k1 k2:Nat} {q1 q2 p1 p2 p:Pos} {Q:Flow→Shared→Prop} (hne:x1≠x2) (hx1:kN env.scope x1=some .local∨kN env.scope x1=some .cell) (hx2:kN env.scope x2=some .local∨kN env.scope x2=some .cell)
  (hok:(!([c1,c2].all (constantsAlone 8))||[c1,c2].all (foldedForSure 8))=true)
  (h:wpAny (model prog w) A (spliced (backTo p2 (starEach [c1,c2] env))) (fun vs s1=>∃v1 v2 d1 d2,vs=[v1,v2]∧FC w (GG w) gaP A env Z X O none fr s1 rc∧RdW (PP Z X O) s1.heap v1 d1∧RdW (PP Z X O) s1.heap v2 d2∧
   (∀s4,zAC O s1 s4→FC w (GG w) gaP A env Z X O none (zBV x2 (.val d2) (zBV x1 (.val d1) fr)) s4 rc→Q .next s4)) E s):
  wpAny (model prog w) A (exec (.Assign [.Tuple [.Name (nm x1) q1, .Name (nm x2) q2] k1 p1] (.Tuple [c1,c2] k2 p2) p) env) Q E s:=by
 obtain ⟨r,hr,hrn⟩:=zCe (ts:=[.Name (nm x1) q1, .Name (nm x2) q2]) (vs:=[c1,c2]) (k1:=k1) (k2:=k2) (p1:=p1) (p2:=p2) (env:=env) hok
 rw [exec_Assign]
 refine wpAny_bind (wpAny_standAt ?_)
 rw [show swapsWithSole [.Tuple [.Name (nm x1) q1, .Name (nm x2) q2] k1 p1] (.Tuple [c1,c2] k2 p2) p.line env=pure false from rfl]
 refine wpAny_bind (wpAny_pure ?_)
 rw [if_neg (by decide)]
 rw [arm_eval_Tuple]
 refine wpAny_bind (wpAny_bind (wpAny_standAt (wpAny_bind (wpAny_mono h (fun vs s1 h1=> ?_) fun V V e=>e))))
 obtain ⟨v1,v2,d1,d2,rfl,F1,r1,r2,hQ⟩:=h1
 refine wpAny_newTuple ?_ (by rw [sizeLine_eq]; simp)
 rw [hr]
 refine wpAny_bind (wpAny_pure ?_)
 have zCp:(s1.heap.push {cls:= .type "tuple",data:= .seq #[v1,v2]}).IsTuple s1.heap.objs.size #[v1,v2]:=zAt (Heap.get?_push_size _ rfl)
 have K2:Keeps s1 {s1 with heap:=s1.heap.push {cls:= .type "tuple",data:= .seq #[v1,v2]}}:=Keeps.push s1 _
 generalize hs2:({s1 with heap:=s1.heap.push {cls:= .type "tuple",data:= .seq #[v1,v2]}}:Shared)=s2 at K2 ⊢
 have htup2:s2.heap.IsTuple s1.heap.objs.size #[v1,v2]:=by rw [←hs2]; exact zCp
 have F2:=F1.keeps K2
 have two: ∀(s3:Shared) (y1 y2:Nat) (u1 u2:Value) (b1 b2:D) (t1 t2:Value→Sem Unit) (Q:Unit→Shared→Prop),Keeps s1 s3→FC w (GG w) gaP A env Z X O none fr s3 rc→RdW (PP Z X O) s3.heap u1 b1→RdW (PP Z X O) s3.heap u2 b2→
   kN env.scope y1=some .local∨kN env.scope y1=some .cell→kN env.scope y2=some .local∨kN env.scope y2=some .cell→(∀v s (Q:Unit→Shared→Prop),wpAny (model prog w) A (storeName env (nm y1) v) Q E s→wpAny (model prog w) A (t1 v) Q E s)→(∀v s (Q:Unit→Shared→Prop),wpAny (model prog w) A (storeName env (nm y2) v) Q E s→wpAny (model prog w) A (t2 v) Q E s)→
   (∀s4,zAC O s1 s4→FC w (GG w) gaP A env Z X O none (zBV y2 (.val b2) (zBV y1 (.val b1) fr)) s4 rc→Q () s4)→wpAny (model prog w) A (assignInOrder [t1,t2] [u1,u2]) Q E s3:=fun s3 y1 y2 u1 u2 b1 b2 t1 t2 Q K3 F3 a1 a2 z1 z2 g1 g2 hq=>by
  unfold assignInOrder
  refine wpAny_bind (wpAny_holding (g1 _ _ _ (F3.fw.store (sl:= .val b1) z1 trivial a1 (fun V e=>by cases e) fun s4 k4 f4=> ?_)))
  have F4:=F3.to k4 f4
  have a2':=RdW.kb a2 k4 fun a x=> .inr (.inr x)
  unfold assignInOrder
  refine wpAny_bind (wpAny_holding (g2 _ _ _ (F4.fw.store (sl:= .val b2) z2 trivial a2' (fun V e=>by cases e) fun s5 k5 f5=> ?_)))
  unfold assignInOrder
  exact wpAny_pure (hq s5 (((zAC.of (O:=O) K3).trans k4 fun V V V h=>h).trans k5 fun V V V h=>h) (F4.to k5 f5))
 induction r with
 | none=>
  show wpAny _ A (do assignAll (.ref s1.heap.objs.size) [assign (.Tuple [.Name (nm x1) q1, .Name (nm x2) q2] k1 p1) env]; pure .next) Q E s2
  refine wpAny_bind ?_
  show wpAny _ A (assign (.Tuple [.Name (nm x1) q1, .Name (nm x2) q2] k1 p1) env (.ref s1.heap.objs.size)) _ E s2
  rw [arm_assign_Tuple]
  refine wpAny_bind (wpAny_standAt (zCM F2.hand htup2 rfl rfl fun h' he=> ?_))
  have K3:Keeps s2 {s2 with heap:=h'}:=⟨h',s2.toks,rfl,fun a o e=>he a o (zBG (P:=fun V=>False) e) e⟩
  have K13:=Keeps.trans K2 K3
  show wpAny _ _ (assignInOrder [assign (.Name (nm x1) q1) env,assign (.Name (nm x2) q2) env] [v1,v2]) _ _ _
  exact two _ x1 x2 v1 v2 d1 d2 _ _ _ K13 (F2.keeps K3) (r1.keeps K13) (r2.keeps K13) hx1 hx2 (fun V V V h=>wpAny_assign_Name h) (fun V V V h=>wpAny_assign_Name h) fun s4 k4 f4=>wpAny_pure (hQ s4 k4 f4)
 | some names=>
  obtain ⟨line,e1,e2⟩:=hrn names rfl
  have e3:names=[nm x1,nm x2]:=by
   have iv: ∀{x:Nat},kN env.scope x=some .local∨kN env.scope x=some .cell→zBc (env.scope.names.lookup (nm x))=true:=fun h=>by
    unfold kN at h
    rcases h with h | h <;> rw [h] <;> rfl
   have hk:(Ck (.cons (.var x1 q1) (.cons (.var x2 q2) .nil))).k env.scope=true:=by
    show zAA (zBc (env.scope.names.lookup (nm x1))) (zAA (zBc (env.scope.names.lookup (nm x2))) true false) false=true
    rw [iv hx1,iv hx2]; rfl
   obtain ⟨_,_,_,n4,_⟩:=zGz (prog:=prog) (w:=w) (A:=A) (E:=E) (env:=env) (ts:= .cons (.var x1 q1) (.cons (.var x2 q2) .nil)) rfl hk
   rw [e1]
   exact n4 line (by rw [e1] at e2; exact e2)
  subst e3
  show wpAny _ A (do rule "assign.swapped-stores"; let items←unpackItems (.ref s1.heap.objs.size) (#[v1,v2]:Array Value).size none; assignInOrder ([nm x1,nm x2].reverse.map fun n=>bindName env n) items.reverse; pure .next) Q E s2
  refine wpAny_bind (wpAny_rule (wpAny_bind (zBx F2.hand htup2 fun h' he=> ?_)))
  have K3:Keeps s2 {s2 with heap:=h'}:=⟨h',s2.toks,rfl,fun a o e=>he a o (zBG (P:=fun V=>False) e) e⟩
  have K13:=Keeps.trans K2 K3
  refine wpAny_bind ?_
  show wpAny _ _ (assignInOrder [bindName env (nm x2),bindName env (nm x1)] [v2,v1]) _ _ _
  refine two _ x2 x1 v2 v1 d2 d1 _ _ _ K13 (F2.keeps K3) (r2.keeps K13) (r1.keeps K13) hx2 hx1 (fun V V V h=>wpAny_bindName h) (fun V V V h=>wpAny_bindName h) fun s4 k4 f4=>wpAny_pure (hQ s4 k4 ⟨f4.fw.congr fun y sl e=> ?_,f4.hand,f4.hp,f4.gl,f4.dep,f4.un⟩)
  rw [zAT,zAT] at e ⊢
  by_cases h1:y=x1
  ·have h2:y≠x2:=fun q=>hne (h1.symm.trans q)
   rw [if_neg h2,if_pos h1] at e
   rw [if_pos h1]; exact e
  ·rw [if_neg h1]
   by_cases h2:y=x2
   ·rw [if_pos h2] at e ⊢; exact e
   ·rw [if_neg h2] at e ⊢
    rw [if_neg h1] at e; exact e
end
section
variable {prog:Program} {w:World} {rc:Nat} {env:Env} {P:Addr→Prop} {s:Shared}
def AOk (prog:Program) (w:World) (env:Env) (P:Addr→Prop) (s:Shared) (e:Expr) (d:D):Prop:=∀(A:Around) (s':Shared) (Q:Value→Shared→Prop) (E:Value→Shared→Prop),A.units + 62 < cLine→Keeps s s'→(∀v s₁,Keeps s' s₁→RdW P s₁.heap v d→Q v s₁)→wpAny (model prog w) A (eval e env) Q E s'
def zSs (prog:Program) (w:World) (env:Env) (P:Addr→Prop) (s:Shared) (es:List Expr) (ds:List D):Prop:=∀(pos:Pos) (A:Around) (s':Shared) (Q:List Value→Shared→Prop) (E:Value→Shared→Prop),A.units + 62 < cLine→Keeps s s'→(∀vs s₁,Keeps s' s₁→zAK P s₁.heap vs ds→Q vs s₁)→wpAny (model prog w) A (spliced (backTo pos (starEach es env))) Q E s'
theorem zGv:zSs prog w env P s [] []:=fun V V V V V V V hQ=>Calls.spliced_nil (hQ [] _ (Keeps.refl _) .nil)
theorem zBI {e:Expr} {es:List Expr} {d:D} {ds:List D} (h:AOk prog w env P s e d) (t:zSs prog w env P s es ds) (he:starEach (e :: es) env=(false,eval e env) :: starEach es env:=by rfl):zSs prog w env P s (e :: es) (d :: ds):=by
 intro pos A s' Q E hu k hQ
 rw [he]
 refine Calls.spliced_cons (h A s' _ _ hu k fun v s1 k1 r1=> ?_)
 exact t pos A s1 _ _ hu (Keeps.trans k k1) fun vs s2 k2 r2=>hQ (v :: vs) s2 (Keeps.trans k1 k2) (.cons (r1.keeps k2) r2)
theorem zNA {x:Str} {k:Nat} {p:Pos} (hx:PyData.strOk x=true):AOk prog w env P s (.Constant (.str x) k p) (.str x):=by
 intro A s' Q E hu ks hQ
 exact Calls.Constant_str (hQ _ _ (Keeps.toks s' _) (.str x _ hx))
theorem zPC {i:Int} {k:Nat} {p:Pos}:AOk prog w env P s (.Constant (.int i) k p) (.int i):=by
 intro A s' Q E hu ks hQ
 rw [arm_eval_Constant]
 exact wpAny_mkInt (zAM hQ _ _)
theorem zLC {n:Str} {p:Pos} {c:Addr} {v:Value} {d:D} (hk:env.scope.kind= .function) (hl:env.kindOf n=some .free) (hc:env.cells.lookup n=some c) (hv:s.heap.IsCell c (some v)) (r:RdW P s.heap v d) (h1:(n==("__classdict__":Str))=false) (h2:(n==("__debug__":Str))=false):AOk prog w env P s (.Name n p) d:=by
 intro A s' Q E hu ks hQ
 exact wpAny_Name (wpAny_loadName_free hk hl hc (hv.keeps fun V V e=>Keeps.get ks e) (hQ v s' (Keeps.refl _) (r.keeps ks)) h1) h2
theorem zPB {es:List Expr} {ds:List D} {k:Nat} {p:Pos} (live: ∀a,P a→∃o,s.heap.get? a=some o) (h:zSs prog w env P s es ds) (hl:ds.length≤1000):AOk prog w env P s (.Tuple es k p) (.tuple ds):=by
 intro A s' Q E hu ks hQ
 rw [arm_eval_Tuple]
 refine wpAny_bind (wpAny_standAt (wpAny_bind (h p A s' _ _ hu ks fun vs s1 k1 r1=> ?_)))
 exact wpAny_newTuple (zBy (vs:=vs.toArray) (fun a ha=>by obtain ⟨o,ho⟩:=live a ha; exact ⟨o,Keeps.get k1 (Keeps.get ks ho)⟩) (by simpa using r1) fun v s₂ q2 r2=>hQ v s₂ (Keeps.trans k1 q2) r2) (by rw [r1.length,sizeLine_eq]; lia)
theorem zSn {e i:Expr} {a di d:D} {p:Pos} (h:AOk prog w env P s e a) (hi:AOk prog w env P s i di) (hd:zLO a di=some d) (hs: ∀o v,subscripted i false o v=operate [o,v] (getItem o v):=by intro _ _; rfl):AOk prog w env P s (.Subscript e i p) d:=by
 intro A s' Q E hu ks hQ
 rw [arm_eval_Subscript]
 refine wpAny_bind (h A s' _ _ hu ks fun va s1 k1 ra=> ?_)
 refine wpAny_bind (wpAny_holding (hi A s1 _ _ hu (Keeps.trans ks k1) fun vi s2 k2 ri=>wpAny_bind (wpAny_standAt ?_)))
 have ra':PkR w P s2.heap va a:= .inl (ra.keeps k2)
 refine wpAny_bind (zCv ra' (zDq hd) (wpAny_bind ?_))
 rw [hs]
 exact wpAny_operating (zBe hd ra' ri hu fun v s₂ q2 r2=>wpAny_bind (wpAny_letTemporaryGo (wpAny_pure (hQ v s₂ (Keeps.trans k1 (Keeps.trans k2 q2)) r2))))
end
section
variable {prog:Program} {w:World} {rc:Nat} {A:Around} {env:Env} {Z X O:Addr→Prop} {fr:Frm} {s s':Shared} {E:Value→Shared→Prop}
theorem FC.tab (F:FC w (GG w) gaP A env Z X O none fr s rc) (vals: ∀x sl,zAE x fr=some sl→∃d,sl= .val d) (hh:A.handled=none) (htab:s.heap.get? 1303=some zJK) (kb:zAC (· =1303) s s') (h1: ∃o,s'.heap.get? 1303=some o):FC w (GG w) gaP A env Z X O none fr s' rc:=by
 have cell: ∀c v,s.heap.IsCell c v→s'.heap.IsCell c v:=fun c v ⟨o,ho,hd⟩=>⟨o,kb.get (fun q=>by rw [q,htab] at ho; cases ho; cases hd) ho,hd⟩
 refine F.reset (fun a o e=>kb.get (fun q=>by rw [q] at e; rw [show (GG w)=GL w.params from rfl,zKb] at e; cases e) (F.fw.glob a o e).1) (fun a h=> ?_) (fun n c v V h=>⟨v,cell c v h⟩) (fun n V c v V h=>⟨v,cell c v h⟩) ?_ vals (.inl hh)
 ·by_cases q:a=1303
  ·rw [q]; exact h1
  ·obtain ⟨o,ho⟩:=F.fw.live a h; exact ⟨o,kb.get q ho⟩
 ·obtain ⟨m,hn,hv,_⟩:=F.fw.names
  refine ⟨m, ?_,fun x sl e hx=> ?_⟩
  ·obtain ⟨o,es,ep,ho,hd,r⟩:=hn
   exact ⟨o,es,ep,kb.get (fun q=>by rw [q,htab] at ho; cases ho; cases hd) ho,hd,r⟩
  ·obtain ⟨d,rfl⟩:=vals x sl e
   obtain ⟨v,g1,g2⟩:=hv x _ e hx
   refine ⟨v,d,rfl, ?_,(show RdW (PP Z X O) s.heap v d from g2).seq fun a o ⟨vs,n,hd⟩ e=>kb.get (fun q=>by rw [q,htab] at e; cases e; cases hd) e⟩
   exact g1.imp id fun ⟨q1,c,q2,q3⟩=>⟨q1,c,q2,cell c _ q3⟩
theorem zGC {ds:List D} {res:Option D} (ind:zDm prog w rc 315 ds res) {scope:Scope} {e:Expr} {rest:List Expr} {p1 p2 p3 p4 p5:Pos} {clos:List (Str×Addr)} {Q:Value→Shared→Prop} {rc':Nat} (hrc:rc + 2≤rc') (F:FC w (GG w) gaP A env (fun V=>False) (fun V=>False) O none fr s rc') (vals: ∀x sl,zAE x fr=some sl→∃d,sl= .val d)
  (hh:A.handled=none) (hfs:A.frames=some [env]) (hf:env.frame=some env.locals) (hcode:env.code= .ref 1305) (htab:s.heap.get? 1303=some zJK) (hcl:closureFor scope env=pure clos) (kT:env.kindOf "_law_told"=some .globalImplicit)
  (he: ∀env,starEach (e :: rest) env=(false,eval e env) :: starEach rest env) (hk:scope.kind= .function) (hco:scope.isCoroutine=false) (hge:scope.isGenerator=false) (hcell: ∀x∈scope.names,x.2≠ .cell) (hi:scope.names.lookup ("indefinite_sum":Str)=some .globalImplicit)
  (hargs: ∀(s1:Shared) (env':Env) (P:Addr→Prop),FC w (GG w) gaP A env (fun V=>False) (fun V=>False) O none fr s1 rc'→env'.scope=scope→env'.cells=clos→(∀a,P a→PP (fun V=>False) (fun V=>False) O a∨s1.heap.get? a=none)→∀s',Keeps s1 s'→(∀a,P a→∃o,s'.heap.get? a=some o)→zSs prog w env' P s' (e :: rest) ds)
  (hQ: ∀v s',(∃h' t',s'={s with heap:=h',toks:=t'})→(∀b o,b≠env.locals→b≠1303→s.heap.get? b=some o→s'.heap.get? b=some o)→FC w (GG w) gaP A env (fun V=>False) (fun V=>False) O none fr s' rc'→RdW (PP (fun V=>False) (fun V=>False) O) s'.heap v (res.getD (.str "limit"))→(∃vs,s'.heap.get? 1303=some (tabObj (#[]++vs)))→Q v s'):
  wpAny (model prog w) A (eval (.Call (.Name "_law_told" p1) [.Lambda noArgs (.Call (.Name "indefinite_sum" p2) (e :: rest) [] p3) scope p4] [] p5) env) Q E s:=by
 obtain ⟨ta,to_,tfd,t1,t2,t3,tspec⟩:=zNl (prog:=prog) (w:=w) (rc:=rc + 1)
 have d1:((("_law_told":Str))==("__debug__":Str))=false:=by decide +kernel
 have G:zHB w.params s:=fun a o e=>(F.fw.glob a o e).1
 refine wpAny_Call_Name_kw (zIn G F.fw.kind F.gl kT (show mgP w.params ("_law_told":Str)=some (.ref ta) from t1) ?_ d1)
 refine callWith_def t3 (o:=to_) ?_ rfl
 refine Calls.spliced_cons (zLz G F.gl.1 hcode htab hcl fun f c' ctv pm s1 same kb hfn hfo hcd htb=> ?_)
 have F1:FC w (GG w) gaP A env (fun V=>False) (fun V=>False) O none fr s1 rc':=F.tab vals hh htab kb ⟨_,htb⟩
 have lam:=zMA (P0:=PP (fun V=>False) (fun V=>False) O) ind hfo hcd he hk hco hge hcell hi fun A' env' P s' Q E e1 e2 hu ks hP live hq=>hargs s1 env' P F1 e1 e2 hP s' ks live p3 A' s' Q E hu (Keeps.refl _) hq
 have told:=tspec f _ _ _ s1 res hfo rfl lam
 have sub: ∀b∈frs [env],PP (fun V=>False) (fun V=>False) O b:=fun b hb=>by
  unfold frs at hb
  rw [List.filterMap_cons,hf] at hb
  have hb:b∈[env.locals]:=hb
  rw [List.mem_singleton.mp hb]; exact .inr (.inr F.fw.loc)
 obtain ⟨m,hns⟩:=F1.frs
 have hl1:s1.heap.FunFrames zBR [env]:=Heap.FunFrames.cons (by rw [F.fw.kind]; simp) hf hns rfl trivial
 refine Calls.spliced_nil ⟨(F1.fw.glob _ _ t2).1, ?_⟩
 have dep:=F.dep
 have un:=F.un
 refine told A (PP (fun V=>False) (fun V=>False) O) [env] s1 _ _ (Keeps.refl _) (fun V h=>h) (fun V h=> .inl h) F1.fw.glob F1.fw.live hh hfs hl1 sub (by lia) (by lia) (fun d v s2 hd af rv=> ?_) fun h=>by cases h
 cases hd
 obtain ⟨same2,af1,af2⟩:=af
 have nf: ∀b,b≠env.locals→b ∉ frs [env]:=fun b hb q=>by
  unfold frs at q
  rw [List.filterMap_cons,hf] at q
  exact hb (List.mem_singleton.mp q)
 refine hQ v s2 ?_ (fun b o hb h1303 ho=>af1 b o (nf b hb) (kb.get h1303 ho)) ?_ rv ⟨_,af1 1303 _ (nf _ fun q=> ?_) htb⟩
 ·obtain ⟨h',t',q⟩:=same; obtain ⟨h'',t'',q'⟩:=same2
  rw [q',q]; exact ⟨_,_,rfl⟩
 ·refine F1.move vals (fun b o hn ho=>af1 b o (fun q=>hn (sub b q)) ho) (fun b o V ho=>af2 b o ho) ⟨m,m,hns, ?_,fun V V V=>rfl⟩ (.inl hh) (fun b hb=>by unfold zAQ at hb; rw [hh] at hb; cases hb) rfl rfl
  obtain ⟨o,es,ep,ho,r⟩:=hns
  obtain ⟨sl,h⟩:=af2 _ o ho
  exact ⟨_,es,ep,h,r⟩
 ·obtain ⟨o,es,ep,ho,hd,_⟩:=F.frs.choose_spec
  rw [←q,htab] at ho; cases ho; cases hd
end
abbrev zIG:S:=Fb330.tl.tl.tl
abbrev lwL:S:=zIG.hd
abbrev lwI:E:=zIG.tl.hd.e1
abbrev lwT:S:=zIG.tl.tl.hd
abbrev lwR:S:=zIG.tl.tl.tl.tl
noncomputable def frC (f N ap:Int):Frm:=[(322, .val (.int f)),(9, .val (.int N)),(323, .val (.int ap))]
noncomputable def valS (o:Option Slot):Option D:=Option.rec (motive:=fun V=>Option D) none (fun s=>Slot.rec (motive:=fun V=>Option D) some (fun V=>none) s) o
theorem zDy {o:Option Slot} {d:D} (h:valS o=some d):o=some (.val d):=by
 induction o with
 | none=>cases h
 | some s=>induction s with
  | val x=>cases h; rfl
  | own x=>cases h
noncomputable def zGd (f:Fl):Option Unit:=Fl.rec (motive:=fun V=>Option Unit) (fun V=>none) (fun V=>none) (fun d=>onD none (fun b=>zAA b (some ()) none) (fun V=>none) (fun V=>none) (fun V=>none) (fun V=>none) (fun V=>none) d) f
theorem zEn {f:Fl} (h:zGd f=some ()):f= .ret (.bool true):=by
 induction f with
 | ret d=>induction d using PyData.casesOn with
  | bool b=>induction b with
   | true=>rfl
   | false=>cases h
  | _=>cases h
 | _=>cases h
noncomputable def zFd (ind:List D→Option D) (f N ap:Int):Option Unit:=
 bnd ((Ex gcL zAR lwL).x (frC f N ap)) fun f1=>zIj f1 fun fr1=>bnd ((Ev gcL zAR lwI).t fr1) fun c=>zAA c none (bnd ((Ex gcL zAR lwT).x fr1) fun f2=>zIj f2 fun fr2=>zAA (zKz fr2) (bnd (valS (zAE 88 fr2)) fun t=>
  bnd (ind [t,sN]) fun d=>bnd ((Ex gcL zAR lwR).xs (zBV 36 (.val d) fr2)) zGd) none)
noncomputable def two (d:D) (k:D→D→Option Unit):Option Unit:=zAz d (fun l=>onL l none fun a r=>onL r none fun b V=>k a b) none
theorem zLU {d:D} {k:D→D→Option Unit} (h:two d k=some ()): ∃a b r,d= .list (a :: b :: r)∧k a b=some ():=by
 induction d using PyData.casesOn with
 | list l=>induction l using List.casesOn with
  | nil=>cases h
  | cons a l=>induction l using List.casesOn with
   | nil=>cases h
   | cons b r=>exact ⟨a,b,r,rfl,h⟩
 | _=>cases h
noncomputable abbrev zPm (n a b:D):D:= .tuple [.str "prod", .tuple [.tuple [.str "num",n, .int 1],a,b]]
noncomputable def zIr (N ap:Int):Option Unit:=
 bnd ((Ex gcL zAR lwL).x (frC 1 N ap)) fun f1=>zIj f1 fun fr1=>bnd ((Ev gcL zAR lwI).t fr1) fun c=>zAA c (zAA (zKz fr1) (bnd (valS (zAE 9 fr1)) fun n=>bnd (valS (zAE 324 fr1)) fun ls=>two ls fun a b=>bnd (indB zAR [zPm n a b,sN]) fun V=>some ()) none) none
abbrev boxL:E:=Fb330.hd.e2
abbrev lwS1:S:= .asg (.var 317 ⟨1230,4,1230,7⟩) boxL true [] ⟨1230,4,1230,31⟩
noncomputable abbrev subE:E:= .sub (.var 321 ⟨1230,16,1230,22⟩) (.slc .nil (.cons (.cst (.int 8) 0 ⟨1230,24,1230,25⟩) .nil) .nil ⟨1230,23,1230,25⟩) ⟨1230,16,1230,26⟩
noncomputable def zDc (xs:List Int):List Int:=zBk (zBu (len xs) 8) xs
theorem zGE {α β:Type} (f:α→β): ∀(n:Nat) (l:List α),zBk n (l.map f)=(zBk n l).map f
 | _,[]=>by cases ‹Nat› <;> rfl
 | 0,a :: l=>rfl
 | n + 1,a :: l=>by
  show f a :: zBk n (l.map f)=f a :: (zBk n l).map f
  rw [zGE f n l]
theorem zGF {α:Type}: ∀(n:Nat) (l:List α),(zBk n l).length≤n
 | n,[]=>by cases n <;> exact Nat.zero_le _
 | 0,a :: l=>Nat.le_refl _
 | n + 1,a :: l=>Nat.succ_le_succ (zGF n l)
theorem zDQ (xs:List Int):(zDc xs).length≤8:=by
 refine Nat.le_trans (zGF _ _) ?_
 show zAA (Nat.ble 8 (len xs)) 8 (len xs)≤8
 cases h:Nat.ble 8 (len xs) with
 | true=>exact Nat.le_refl _
 | false=>
  show len xs≤8
  have: ¬8≤len xs:=fun q=>by rw [Nat.ble_eq_true_of_le q] at h; cases h
  lia
theorem zHy {α:Type} {l:List α} (h:l.length≤100000):zAI l=true:=Nat.ble_eq_true_of_le (by rw [zBb]; exact h)
theorem zOG (xs:List Int) (h:xs.length≤63):(Ex gcL zAR lwS1).x [(321, .val (.list (xs.map PyData.int)))]=some (.next [(321, .val (.list (xs.map PyData.int))),(317, .own (.list [.list ((zDc xs).map PyData.int), .int 0]))]):=by
 have h1:zAI (xs.map PyData.int)=true:=zHy (by simp; lia)
 have h2:zAI ((zDc xs).map PyData.int)=true:=zHy (by have:=zDQ xs; simp; lia)
 have h3:zBk (zBu (len (xs.map PyData.int)) 8) (xs.map PyData.int)=(zDc xs).map PyData.int:=by
  rw [zGE,zBb,List.length_map, ←zBb]; rfl
 have a1:(Ev gcL zAR subE).p [(321, .val (.list (xs.map PyData.int)))]=some (.list ((zDc xs).map PyData.int)):=by
  show zAA (zAI (xs.map PyData.int)) (some (PyData.list (zBk (zBu (len (xs.map PyData.int)) 8) (xs.map PyData.int)))) none=_
  rw [h1,h3]; rfl
 have a2:(Ev gcL zAR boxL).f [(321, .val (.list (xs.map PyData.int)))]=some (.list [.list ((zDc xs).map PyData.int), .int 0]):=by
  show bnd (bnd (bnd (bnd ((Ev gcL zAR subE).p [(321, .val (.list (xs.map PyData.int)))]) fun d=>some [d]) fun l=>zSk .list l) fun d=>some [d, .int 0]) zDk=_
  rw [a1]
  show bnd (bnd (zAA (zAI ((zDc xs).map PyData.int)) (some (PyData.list ((zDc xs).map PyData.int))) none) fun d=>some [d, .int 0]) zDk=_
  rw [h2]; rfl
 show bnd ((Ev gcL zAR boxL).f [(321, .val (.list (xs.map PyData.int)))]) (fun d=>zAy 317 (zBZ true d) [(321, .val (.list (xs.map PyData.int)))])=_
 rw [a2]; rfl
theorem zKY (P:Params):(mgP P "int",(H1 P).nsMap builtinsNs "int")=(none,some (.type "int")):=by kernel_rfl
section
variable {prog:Program} {w:World} {rc rc':Nat} {A:Around} {env:Env} {O:Addr→Prop} {fr:Frm} {s:Shared} {E:Value→Shared→Prop}
abbrev FL (w:World) (A:Around) (env:Env) (O:Addr→Prop) (fr:Frm) (s:Shared) (rc:Nat):Prop:=FC w (GL w.params) gaP A env (fun V=>False) (fun V=>False) O none fr s rc
noncomputable abbrev zHo (ys:List Int) (k:Int):Slot:= .own (.list [.list (ys.map PyData.int), .int k])
theorem draw {k k' m:Int} (tk:zDh prog w rc k k' m) (hrc:rc≤rc') {ys:List Int} {p1 p2 p3 p4:Pos} {Q:Value→Shared→Prop} (F:FL w A env O fr s rc') (hh:A.handled=none) (hlen:ys.length≤8) (hf:zAE 317 fr=some (zHo ys k)) (k1:env.kindOf "_law_take"=some .globalImplicit) (k2:zBc (env.scope.names.lookup (nm 317))=true)
  (hQ: ∀r t s',0≤r→r < m→zAC O s s'→FL w A env O (zBV 317 (zHo ys k') fr) s' rc'→Q (.int r t) s'):
  wpAny (model prog w) A (eval (.Call (.Name "_law_take" p1) [.Name (nm 317) p2, .Constant (.int m) 0 p3] [] p4) env) Q E s:=by
 obtain ⟨ta,to_,tfd,t1,t2,t3,sp⟩:=tk
 have d1:((("_law_take":Str))==("__debug__":Str))=false:=by decide +kernel
 have G:zHB w.params s:=fun a o e=>(F.fw.glob a o e).1
 refine wpAny_Call_Name_kw (zIn G F.fw.kind F.gl k1 (show mgP w.params ("_law_take":Str)=some (.ref ta) from t1) ?_ d1)
 refine callWith_def t3 (o:=to_) ?_ rfl
 refine Calls.spliced_cons (zAh F.fw k2 hf fun v mm hm hv r=> ?_)
 obtain ⟨⟨b,vs,c,eb,g,rs⟩,b',rfl,hOZ,hO,hne⟩:=r
 cases eb
 have hO:O b:=hO rfl
 show wpAny _ _ (spliced [(false,eval (.Constant (.int m) 0 p3) env)]) _ _ _
 refine Calls.spliced_cons ?_
 rw [arm_eval_Constant]
 refine wpAny_mkInt ?_
 have q:Keeps s {s with toks:=s.toks + 1}:=Keeps.toks s _
 show wpAny _ _ (spliced []) _ _ {s with toks:=s.toks + 1}
 generalize ({s with toks:=s.toks + 1}:Shared)=s1 at q
 generalize s.toks=tm
 refine Calls.spliced_nil ⟨(((F.keeps q).fw.glob _ _ t2)).1, ?_⟩
 have F1:=F.keeps q
 have g1:=Keeps.get q g
 have rs1:=zAK.keeps rs q
 obtain ⟨vs⟩:=vs
 have rs1:zAK (PP (fun V=>False) (fun V=>False) O) s1.heap vs [.list (ys.map PyData.int), .int k]:=rs1
 cases rs1 with
 | @cons v1 vr _ _ ra rb=>
  cases rb with
  | @cons v2 vr2 _ _ rb rn=>
   cases rn
   obtain ⟨t,rfl⟩:=rb.intInv
   obtain ⟨l,vl,nl,rfl,gl,hl,rl⟩:=ra.listInv
   have hlb:l≠b:=fun q=>hl (by rw [q]; exact zDi hO)
   have dep:=F.dep
   have un:=F.un
   refine sp A (fun a=>PP (fun V=>False) (fun V=>False) O a∧a≠b) s1 b l t c tm ys Q E (fun a o e=>⟨(F1.fw.glob a o e).1,fun y=>(F1.fw.glob a o e).2 y.1⟩) (fun a h=>F1.fw.live a h.1) hh (by lia) (by lia) g1 (fun y=>y.2 rfl) ?_ hlb (.list gl (fun y=>hl y.1) (zIA rl)) hlen fun r tr s2 t'' c' r0 r1 kb g2=> ?_
   ·cases q:(GG w).get? b with
    | none=>rfl
    | some o=>exact ((F1.fw.glob _ _ q).2 (.inr (.inr hO))).elim
   ·obtain ⟨hm2,hv2⟩:=zIp q hm hv
    have own:zHE w (PP (fun V=>False) (fun V=>False) O) s2.heap (.ref b) (.list [.list (ys.map PyData.int), .int k']):=⟨b,_,c',rfl,g2, .cons (.list (kb.get hlb gl) hl (zIA rl)) (.cons (.int k' t'') .nil)⟩
    obtain ⟨kO,F'⟩:=F1.upd hf hm2 hv2 kb own
    exact hQ r tr s2 r0 r1 ((zAC.of (O:=O) q).trans kO fun V V V h=>h) F'
end
abbrev zLW (p1 p2 p3 p4:Pos) (m:Int):Expr:= .Call (.Name "_law_take" p1) [.Name (nm 317) p2, .Constant (.int m) 0 p3] [] p4
abbrev st2:Stmt:= .Assign [.Tuple [.Name (nm 322) ⟨1231,4,1231,8⟩, .Name (nm 9) ⟨1231,10,1231,16⟩] 0 ⟨1231,4,1231,16⟩]
 (.Tuple [zLW ⟨1231,20,1231,29⟩ ⟨1231,30,1231,33⟩ ⟨1231,35,1231,36⟩ ⟨1231,20,1231,37⟩ 3, .BinOp (.Constant (.int 1) 0 ⟨1231,39,1231,40⟩) .Add (zLW ⟨1231,43,1231,52⟩ ⟨1231,53,1231,56⟩ ⟨1231,58,1231,59⟩ ⟨1231,43,1231,60⟩ 3) ⟨1231,39,1231,60⟩] 0 ⟨1231,19,1231,61⟩) ⟨1231,4,1231,61⟩
noncomputable abbrev tblL (p:Pos) (a b c d:Int) (p1 p2 p3 p4:Pos):E:= .lst (.cons (.cst (.int a) 0 p1) (.cons (.cst (.int b) 0 p2) (.cons (.cst (.int c) 0 p3) (.cons (.cst (.int d) 0 p4) .nil)))) p
abbrev tblE:E:= .lst (.cons (tblL ⟨1232,13,1232,25⟩ 1 2 1 2 ⟨1232,14,1232,15⟩ ⟨1232,17,1232,18⟩ ⟨1232,20,1232,21⟩ ⟨1232,23,1232,24⟩) (.cons (tblL ⟨1232,27,1232,47⟩ 450 400 300 350 ⟨1232,28,1232,31⟩ ⟨1232,33,1232,36⟩ ⟨1232,38,1232,41⟩ ⟨1232,43,1232,46⟩) .nil)) ⟨1232,12,1232,48⟩
noncomputable abbrev gtE:E:= .cmp (.var 322 ⟨1232,53,1232,57⟩) [.Gt] (.cons (.cst (.int 0) 0 ⟨1232,60,1232,61⟩) .nil) ⟨1232,53,1232,61⟩
abbrev st3:Stmt:= .Assign [.Name (nm 323) ⟨1232,4,1232,9⟩] (.Subscript (.Subscript (up nm tblE) (.Call (.Name "int" ⟨1232,49,1232,52⟩) [up nm gtE] [] ⟨1232,49,1232,62⟩) ⟨1232,12,1232,63⟩) (zLW ⟨1232,64,1232,73⟩ ⟨1232,74,1232,77⟩ ⟨1232,79,1232,80⟩ ⟨1232,64,1232,81⟩ 4) ⟨1232,12,1232,82⟩) ⟨1232,4,1232,82⟩
noncomputable abbrev apL (f:Int):List D:=if f=0 then [.int 1, .int 2, .int 1, .int 2] else [.int 450, .int 400, .int 300, .int 350]
section
variable {prog:Program} {w:World} {rc rc':Nat} {A:Around} {env:Env} {O:Addr→Prop} {fr:Frm} {s:Shared} {E:Value→Shared→Prop}
theorem zQB (tk0:zDh prog w rc 0 1 3) (tk1:zDh prog w rc 1 2 3) (hrc:rc≤rc') {ys:List Int} {Q:Flow→Shared→Prop} (F:FL w A env O fr s rc') (hh:A.handled=none) (hsc:env.scope=Fs330) (hlen:ys.length≤8) (hf:zAE 317 fr=some (zHo ys 0))
  (hQ: ∀r1 r2 s',0≤r1→r1 < 3→0≤r2→r2 < 3→zAC O s s'→FL w A env O (zBV 9 (.val (.int (Int.add 1 r2))) (zBV 322 (.val (.int r1)) (zBV 317 (zHo ys 2) (zBV 317 (zHo ys 1) fr)))) s' rc'→Q .next s'):wpAny (model prog w) A (exec st2 env) Q E s:=by
 have k1:env.kindOf "_law_take"=some .globalImplicit:=by unfold Env.kindOf; rw [hsc]; decide +kernel
 have k2:zBc (env.scope.names.lookup (nm 317))=true:=by rw [hsc]; decide +kernel
 refine asg2 (rc:=rc') (O:=O) (Z:=fun V=>False) (X:=fun V=>False) (fr:=zBV 317 (zHo ys 2) (zBV 317 (zHo ys 1) fr)) (by decide) (by rw [hsc]; decide +kernel) (by rw [hsc]; decide +kernel) (by decide +kernel) ?_
 refine Calls.spliced_cons (draw tk0 hrc F hh hlen hf k1 k2 fun r1 t1 s1 a1 b1 kb1 F1=> ?_)
 show wpAny _ _ (spliced [(false,eval (.BinOp (.Constant (.int 1) 0 ⟨1231,39,1231,40⟩) .Add (zLW ⟨1231,43,1231,52⟩ ⟨1231,53,1231,56⟩ ⟨1231,58,1231,59⟩ ⟨1231,43,1231,60⟩ 3) ⟨1231,39,1231,60⟩) env)]) _ _ _
 refine Calls.spliced_cons (wpAny_BinOp ?_)
 rw [arm_eval_Constant]
 refine wpAny_mkInt ?_
 have q:Keeps s1 {s1 with toks:=s1.toks + 1}:=Keeps.toks s1 _
 show wpAny _ _ (eval _ env) _ _ {s1 with toks:=s1.toks + 1}
 generalize ({s1 with toks:=s1.toks + 1}:Shared)=s2 at q
 generalize s1.toks=tv
 refine draw tk1 hrc (F1.keeps q) hh hlen (by rw [zAT,if_pos rfl]) k1 k2 fun r2 t2 s3 a2 b2 kb2 F3=> ?_
 refine zFM (w:=w) (P:=fun V=>False) (a:= .int 1) (b:= .int r2) (d:= .int (Int.add 1 r2)) (zAZ _) (.int _ _) (.int _ _) (fun x h=>h.elim) fun v s4 q4 fv=> ?_
 have fv:RdW (fun V=>False) s4.heap v (.int (Int.add 1 r2)):=fv
 obtain ⟨tv2,rfl⟩:=fv.intInv
 have kb:zAC O s s4:=((kb1.trans (zAC.of (O:=O) q) fun V V V h=>h).trans kb2 fun V V V h=>h).trans (zAC.of (O:=O) q4) fun V V V h=>h
 exact Calls.spliced_nil ⟨_,_,_,_,rfl,F3.keeps q4, .int r1 t1, .int _ _,fun s5 k5 F5=>hQ r1 r2 s5 a1 b1 a2 b2 (kb.trans k5 fun V V V h=>h) F5⟩
theorem zQA (hc:zAW prog w (GG w) (mgP w.params) zAR rc') (tk2:zDh prog w rc 2 3 4) (hrc:rc≤rc') {ys:List Int} {f:Int} {Q:Flow→Shared→Prop} (F:FL w A env O fr s rc') (hh:A.handled=none) (hsc:env.scope=Fs330) (hlen:ys.length≤8) (hf:zAE 317 fr=some (zHo ys 2)) (h322:zAE 322 fr=some (.val (.int f))) (f0:0≤f) (f3:f < 3)
  (hQ: ∀(r:Int) ap s',0≤r→r < 4→(apL f)[r.toNat]? =some ap→zAC O s s'→FL w A env O (zBV 323 (.val ap) (zBV 317 (zHo ys 3) fr)) s' rc'→Q .next s'):wpAny (model prog w) A (exec st3 env) Q E s:=by
 have ae:=zEo (rc:=rc') (zBO w) hc zAj
 have k1:env.kindOf "_law_take"=some .globalImplicit:=by unfold Env.kindOf; rw [hsc]; decide +kernel
 have k2:zBc (env.scope.names.lookup (nm 317))=true:=by rw [hsc]; decide +kernel
 have k3:env.kindOf "int"=some .globalImplicit:=by unfold Env.kindOf; rw [hsc]; decide +kernel
 have d3:((("int":Str))==("__debug__":Str))=false:=by decide +kernel
 obtain ⟨x1,x2⟩:=Prod.mk.inj (zKY w.params)
 have un:=F.un
 have hu:A.units + 62 < cLine:=by show _ < 9900; lia
 refine zCU rfl rfl rfl ?_
 rw [arm_eval_Subscript]
 refine wpAny_bind ?_
 show wpAny _ _ (eval (.Subscript (up nm tblE) (.Call (.Name "int" ⟨1232,49,1232,52⟩) [up nm gtE] [] ⟨1232,49,1232,62⟩) ⟨1232,12,1232,63⟩) env) _ _ _
 rw [arm_eval_Subscript]
 refine wpAny_bind ((ae tblE).se.p A env _ fr s _ _ (.list [.list [.int 1, .int 2, .int 1, .int 2], .list [.int 450, .int 400, .int 300, .int 350]]) F.cx (by rw [hsc]; decide +kernel) rfl fun va s1 q1 ra=> ?_)
 have G1:zHB w.params s1:=fun a o e=>((F.keeps q1).fw.glob a o e).1
 refine wpAny_bind (wpAny_holding (wpAny_Call_Name_kw (zOO (w:=w) G1 F.fw.kind F.gl k3 x1 x2 ?_ d3)))
 have hgt:(Ev gc zAR gtE).v fr=some (.bool (decide (f≠0))):=by
  have h0:(Ev gc zAR (.var 322 ⟨1232,53,1232,57⟩)).v fr=some (.int f):=by
   show zPr (zAE 322 fr)=_
   rw [h322]; rfl
  show bnd ((Ev gc zAR (.var 322 ⟨1232,53,1232,57⟩)).v fr) (fun d=>bnd ((Ev gc zAR (.cons (.cst (.int 0) 0 ⟨1232,60,1232,61⟩) .nil)).c fr d [.Gt]) zHp)=_
  rw [h0]
  rcases (show f=0∨f=1∨f=2 by lia) with rfl | rfl | rfl <;> rfl
 refine callWith_type1 (Calls.spliced_cons ((ae gtE).se.v A env _ fr s1 _ _ _ (F.keeps q1).cx (by rw [hsc]; decide +kernel) hgt fun v s2 q2 rv=> ?_)) rfl rfl
 obtain rfl:=rv.boolInv
 refine Calls.spliced_nil (call_int_bool (wpAny_bind (wpAny_standAt ?_)))
 have q3:Keeps s2 {s2 with toks:=s2.toks + 1}:=Keeps.toks s2 _
 show wpAny _ _ _ _ _ {s2 with toks:=s2.toks + 1}
 generalize ({s2 with toks:=s2.toks + 1}:Shared)=s3 at q3
 generalize s2.toks=tk3
 have q13:=Keeps.trans q2 q3
 have ra3:PkR w (PP (fun V=>False) (fun V=>False) O) s3.heap va (.list [.list [.int 1, .int 2, .int 1, .int 2], .list [.int 450, .int 400, .int 300, .int 350]]):=ra.keep fun V V e=>Keeps.get q13 e
 have hd:zLO (.list [.list [.int 1, .int 2, .int 1, .int 2], .list [.int 450, .int 400, .int 300, .int 350]]) (.int (if decide (f≠0)=true then 1 else 0))=some (.list (apL f)):=by
  rcases (show f=0∨f=1∨f=2 by lia) with rfl | rfl | rfl <;> rfl
 refine wpAny_bind (zCv ra3 (zDq hd) (wpAny_bind ?_))
 refine wpAny_operating (zBe hd ra3 (.int _ _) hu fun v s4 q4 rv=>wpAny_bind (wpAny_letTemporaryGo (wpAny_pure ?_)))
 have q04:=Keeps.trans (Keeps.trans q1 q13) q4
 have F4:=F.keeps q04
 refine wpAny_bind (wpAny_holding (draw tk2 hrc F4 hh hlen hf k1 k2 fun r t s5 r0 r4 kb F5=>wpAny_bind (wpAny_standAt ?_)))
 have ra5:PkR w (PP (fun V=>False) (fun V=>False) O) s5.heap v (.list (apL f)):= .inl (RdW.kb rv kb fun a x=> .inr (.inr x))
 obtain ⟨ap,hap,hd2⟩: ∃ap,(apL f)[r.toNat]? =some ap∧zLO (.list (apL f)) (.int r)=some ap:=by
  rcases (show f=0∨f=1∨f=2 by lia) with rfl | rfl | rfl <;> rcases (show r=0∨r=1∨r=2∨r=3 by lia) with rfl | rfl | rfl | rfl <;> exact ⟨_,rfl,rfl⟩
 refine wpAny_bind (zCv ra5 (zDq hd2) (wpAny_bind ?_))
 refine wpAny_operating (zBe hd2 ra5 (.int _ _) hu fun v6 s6 q6 rv6=>wpAny_bind (wpAny_letTemporaryGo (wpAny_pure ?_)))
 have F6:=F5.keeps q6
 refine wpAny_assign_Name (F6.fw.store (sl:= .val ap) (by rw [hsc]; decide +kernel) trivial rv6 (fun V e=>by cases e) fun s7 k7 f7=> ?_)
 exact hQ r ap s7 r0 r4 hap ((((zAC.of (O:=O) q04).trans kb fun V V V h=>h).trans (zAC.of (O:=O) q6) fun V V V h=>h).trans k7 fun V V V h=>h) (F6.to k7 f7)
end
def zBA (O:Addr→Prop) (s s':Shared):Prop:=(∃h' t',s'={s with heap:=h',toks:=t'})∧∀b o,¬O b→b≠1303→s.heap.get? b=some o→s'.heap.get? b=some o
theorem zBA.kb {O O':Addr→Prop} {s s' s'':Shared} (h:zBA O s s') (k:zAC O' s' s'') (hO: ∀a o,s.heap.get? a=some o→O' a→O a):zBA O s s'':=by
 obtain ⟨⟨h1,t1,q1⟩,h2⟩:=h
 refine ⟨?_,fun b o hn hb ho=>k.get (fun q=>hn (hO b o ho q)) (h2 b o hn hb ho)⟩
 obtain ⟨h',t',q',_⟩:=k
 rw [q',q1]; exact ⟨_,_,rfl⟩
theorem zBA.of {O:Addr→Prop} {s s':Shared} (k:zAC O s s'):zBA O s s':=by
 refine ⟨?_,fun b o hn V ho=>k.get hn ho⟩
 obtain ⟨h',t',q',_⟩:=k
 exact ⟨_,_,q'⟩
abbrev zOb:Scope:=⟨.function,[(nm 88, .free),(nm 315, .globalImplicit)],false,false,[]⟩
abbrev zOc:Scope:=⟨.function,[(nm 324, .free),(nm 9, .free),(nm 315, .globalImplicit)],false,false,[]⟩
abbrev zJW:Expr:= .Call (.Name "_law_told" ⟨1237,11,1237,20⟩) [.Lambda noArgs (.Call (.Name "indefinite_sum" ⟨1237,29,1237,43⟩) [.Name (nm 88) ⟨1237,44,1237,45⟩, .Constant (.str "n") 0 ⟨1237,47,1237,50⟩] [] ⟨1237,29,1237,51⟩) zOb ⟨1237,21,1237,51⟩] [] ⟨1237,11,1237,52⟩
abbrev lamA0:Expr:= .Tuple [.Constant (.str "prod") 0 ⟨1235,49,1235,55⟩, .Tuple [.Tuple [.Constant (.str "num") 0 ⟨1235,59,1235,64⟩, .Name (nm 9) ⟨1235,66,1235,72⟩, .Constant (.int 1) 0 ⟨1235,74,1235,75⟩] 0 ⟨1235,58,1235,76⟩,
 .Subscript (.Name (nm 324) ⟨1235,78,1235,83⟩) (.Constant (.int 0) 0 ⟨1235,84,1235,85⟩) ⟨1235,78,1235,86⟩, .Subscript (.Name (nm 324) ⟨1235,88,1235,93⟩) (.Constant (.int 1) 0 ⟨1235,94,1235,95⟩) ⟨1235,88,1235,96⟩] 0 ⟨1235,57,1235,97⟩] 0 ⟨1235,48,1235,98⟩
abbrev zPO:Expr:= .Call (.Name "_law_told" ⟨1235,15,1235,24⟩) [.Lambda noArgs (.Call (.Name "indefinite_sum" ⟨1235,33,1235,47⟩) [lamA0, .Constant (.str "n") 0 ⟨1235,100,1235,103⟩] [] ⟨1235,33,1235,104⟩) zOc ⟨1235,25,1235,104⟩] [] ⟨1235,15,1235,105⟩
abbrev retX:Stmt:= .Return (some (.Compare zPO [.Eq] (ups nm (.cons (.cst (.str "limit") 0 ⟨1235,109,1235,116⟩) .nil)) ⟨1235,15,1235,116⟩)) ⟨1235,8,1235,116⟩
theorem zLy:zCW nm (Fn.mk [321] Fs330 Fb330).body=upS nm lwS1 :: st2 :: st3 :: upS nm lwL :: .If (up nm lwI) [retX] [] ⟨1234,4,1235,116⟩ :: upS nm lwT :: .Assign [.Name (nm 36) ⟨1237,4,1237,8⟩] zJW ⟨1237,4,1237,52⟩ :: zCW nm lwR:=by kernel_rfl
section
variable {prog:Program} {w:World} {A:Around} {env:Env} {O:Addr→Prop} {fr:Frm} {s:Shared} {E:Value→Shared→Prop}
theorem zEc {n:Str} {c:Addr} (h:env.cells.lookup n=some c):cellOf env n=pure c:=by unfold cellOf; rw [h]
theorem clos1 {c:Addr} (h:env.cells.lookup (nm 88)=some c):closureFor zOb env=pure [(nm 88,c)]:=by
 unfold closureFor
 simp only [List.forIn_cons,List.forIn_nil,zEc h]
 rfl
theorem clos0 {c1 c2:Addr} (h1:env.cells.lookup (nm 324)=some c1) (h2:env.cells.lookup (nm 9)=some c2):closureFor zOc env=pure [(nm 9,c2),(nm 324,c1)]:=by
 unfold closureFor
 simp only [List.forIn_cons,List.forIn_nil,zEc h1,zEc h2]
 rfl
end
section
variable {prog:Program} {w:World} {A:Around} {env:Env} {O:Addr→Prop} {fr:Frm} {s:Shared} {E:Value→Shared→Prop}
theorem zIy (prog:Program) (w:World):zAW prog w (GG w) (mgP w.params) zAR 500:=zAn (zDG prog w) (by decide)
theorem zIs: ∀x∈zOb.names,x.2≠ .cell:=by
 intro x hx
 rcases List.mem_cons.mp hx with rfl | hx
 ·simp
 rcases List.mem_cons.mp hx with rfl | hx
 ·simp
 ·cases hx
theorem zIt: ∀x∈zOc.names,x.2≠ .cell:=by
 intro x hx
 rcases List.mem_cons.mp hx with rfl | hx
 ·simp
 rcases List.mem_cons.mp hx with rfl | hx
 ·simp
 rcases List.mem_cons.mp hx with rfl | hx
 ·simp
 ·cases hx
theorem zEb {x:Nat} {d:D} {rc:Nat} {s1 s':Shared} {P:Addr→Prop} {c:Addr} (F:FL w A env O fr s1 rc) (h:zAE x fr=some (.val d)) (hk:kN env.scope x=some .cell) (hc:env.cells.lookup (nm x)=some c) (hP: ∀a,P a→PP (fun V=>False) (fun V=>False) O a∨s1.heap.get? a=none) (ks:Keeps s1 s'):
  ∃v,s'.heap.IsCell c (some v)∧RdW P s'.heap v d:=by
 obtain ⟨m,hn,hv,_⟩:=F.fw.names
 obtain ⟨v,hv1,rv⟩:=hv x _ h (.inr hk)
 rcases hv1 with ⟨q,_⟩ | ⟨_,c',hc',hcell⟩
 ·rw [hk] at q; cases q
 ·rw [hc] at hc'; cases hc'
  exact ⟨v,hcell.keeps fun V V e=>Keeps.get ks e,(show RdW (PP (fun V=>False) (fun V=>False) O) s1.heap v d from rv).step (fun a o V e=>Keeps.get ks e) fun a o e pa=>(hP a pa).elim id fun q=>by rw [e] at q; cases q⟩
theorem zOh {M:Model} {test:Expr} {body rest:List Stmt} {p:Pos} {Q:Flow→Shared→Prop} (h:wpAny M A (isTrue test env (eval test env)) (fun b s₂=>b=false∧wpAny M A (execs rest env) Q E s₂) E s):wpAny M A (execs (.If test body [] p :: rest) env) Q E s:=by
 refine wpAny_execs_cons (wpAny_If (wpAny_mono h (fun b s₂ h₂=> ?_) fun V V e=>e))
 obtain ⟨rfl,h₂⟩:=h₂
 rw [if_neg (by simp)]
 exact wpAny_execs_nil h₂
theorem zQN {M:Model} {test:Expr} {e:Expr} {rest:List Stmt} {p p':Pos} {Q:Flow→Shared→Prop} (h:wpAny M A (isTrue test env (eval test env)) (fun b s₂=>b=true∧wpAny M A (eval e env) (fun v s₃=>Q (.ret v) s₃) E s₂) E s):wpAny M A (execs (.If test [.Return (some e) p'] [] p :: rest) env) Q E s:=by
 refine wpAny_execs_cons (wpAny_If (wpAny_mono h (fun b s₂ h₂=> ?_) fun V V e=>e))
 obtain ⟨rfl,h₂⟩:=h₂
 rw [if_pos rfl]
 exact wpAny_execs_cons (wpAny_Return_some h₂)
theorem tail0 {L T R:S} {I:Mine.E} (kL:Sk L Fs330=true) (kI:(Ck I).k Fs330=true) (kT:Sk T Fs330=true) (kR:Sk R Fs330=true) {fr0 fr1 fr2:Frm} {t d:D} (h1:(Ex gcL zAR L).x fr0=some (.next fr1)) (h2:(Ev gcL zAR I).t fr1=some false) (h3:(Ex gcL zAR T).x fr1=some (.next fr2)) (v2:zKz fr2=true)
  (h4:zAE 88 fr2=some (.val t)) (ind:zDm prog w 424 315 [t,sN] (some d)) (h6:(Ex gcL zAR R).xs (zBV 36 (.val d) fr2)=some (.ret (.bool true))) (F:FL w A env O fr0 s 500) (hh:A.handled=none) (hfs:A.frames=some [env]) (hf:env.frame=some env.locals) (hcode:env.code= .ref 1305) (hsc:env.scope=Fs330) (htab:s.heap.get? 1303=some zJK) (hO13: ¬O 1303) {pI:Pos}
  {Q:Flow→Shared→Prop} (hQ: ∀s',zBA O s s'→(∃vs,s'.heap.get? 1303=some (tabObj (#[]++vs)))→Q (.ret (.bool true)) s'):
  wpAny (model prog w) A (execs (upS nm L :: .If (up nm I) [retX] [] pI :: upS nm T :: .Assign [.Name (nm 36) ⟨1237,4,1237,8⟩] zJW ⟨1237,4,1237,52⟩ :: zCW nm R) env) Q E s:=by
 have ae:=zEo (rc:=500) (zGB w) (zIy prog w) zAj
 have as:=zGy (rc:=500) (zGB w) (zIy prog w) zAj (zGJ prog w _)
 refine go1 (as L).1 F (by rw [hsc]; exact kL) h1 fun s1 O1 k1 n1 F1=> ?_
 refine zOh ((ae I).se.t A env _ fr1 s1 _ _ false F1.cx (by rw [hsc]; exact kI) h2 fun s2 q2=>⟨rfl, ?_⟩)
 have F2:=F1.keeps q2
 refine go1 (as T).1 F2 (by rw [hsc]; exact kT) h3 fun s3 O2 k3 n3 F3=> ?_
 have sub1: ∀a o,s.heap.get? a=some o→O1 a→O a:=fun a o ho q=>(n1 a q).elim id fun q=>by rw [ho] at q; cases q
 have t1:=k1.get hO13 htab
 have t2:=Keeps.get q2 t1
 have nO1: ¬O1 1303:=fun q=>hO13 (sub1 _ _ htab q)
 have t3:=k3.get nO1 t2
 have A2:zBA O s s2:=(zBA.of k1).kb (zAC.of (O:=fun V=>False) q2) fun V V V h=>h.elim
 have A3:zBA O s s3:=A2.kb k3 sub1
 have sub2: ∀a o,s.heap.get? a=some o→O2 a→O a:=fun a o ho q=>by
  rcases n3 a q with q | q
  ·exact sub1 a o ho q
  ·by_cases hOa:O a
   ·exact hOa
   ·by_cases h13:a=1303
    ·rw [h13,t2] at q; cases q
    ·have:=A2.2 a o hOa h13 ho
     rw [q] at this; cases this
 have nO2: ¬O2 1303:=fun q=>hO13 (sub2 _ _ htab q)
 have k88:kN env.scope 88=some .cell:=by rw [hsc]; decide +kernel
 obtain ⟨c,vc,hc88,_⟩:=F3.fw.cells (nm 88) k88
 refine wpAny_execs_cons (zCU rfl rfl rfl ?_)
 refine zGC (rc:=424) ind (by decide) F3 (zEg v2) hh hfs hf hcode t3 (clos1 hc88) (by unfold Env.kindOf; rw [hsc]; decide +kernel) (fun V=>rfl) rfl rfl rfl zIs (by decide +kernel) (fun s1' env' P F1' e1 e2 hP s' ks live=> ?_) fun v s5 same af F5 rv htb=> ?_
 ·obtain ⟨v,hcell,r⟩:=zEb F1' h4 k88 hc88 hP ks
  exact zBI (zLC (by rw [e1]) (by unfold Env.kindOf; rw [e1]; decide +kernel) (by rw [e2]; show List.lookup (nm 88) [(nm 88,c)]=some c; rw [List.lookup_cons]; simp) hcell r (by decide +kernel) (by decide +kernel)) (zBI (zNA (by decide +kernel)) zGv)
 ·have A5:zBA O s s5:=by
   refine ⟨?_,fun b o hn hb ho=>af b o (fun q=>hn (sub2 _ _ ho (q▸F3.fw.loc))) hb (A3.2 b o hn hb ho)⟩
   obtain ⟨h',t',q⟩:=same; obtain ⟨⟨h'',t'',q'⟩,_⟩:=A3
   rw [q,q']; exact ⟨_,_,rfl⟩
  obtain ⟨vs,htb⟩:=htb
  refine wpAny_assign_Name (F5.fw.store (sl:= .val d) (by rw [hsc]; decide +kernel) trivial rv (fun V e=>by cases e) fun s6 k6 f6=> ?_)
  refine (as R).2 A env _ _ O2 _ s6 _ _ _ (F5.to k6 f6) (by rw [hsc]; exact kR) h6 fun fw s7 O3 k7 n7 fo=> ?_
  obtain ⟨v',rfl,rv'⟩:=fo
  obtain rfl:=rv'.boolInv
  exact hQ s7 ((A5.kb k6 sub2).kb k7 sub2) ⟨vs,k7.get nO2 (k6.get nO2 htb)⟩
end
section
variable {prog:Program} {w:World} {A:Around} {env:Env} {O:Addr→Prop} {fr:Frm} {s:Shared} {E:Value→Shared→Prop}
noncomputable abbrev limL:Mine.E:= .cons (.cst (.str "limit") 0 ⟨1235,109,1235,116⟩) .nil
theorem zLt {fr:Frm}:(Ev gcL zAR limL).c fr (.str "limit") [.Eq]=some true:=by kernel_rfl
theorem tail1 {L:S} {I:Mine.E} (kL:Sk L Fs330=true) (kI:(Ck I).k Fs330=true) {fr0 fr1:Frm} {n a b:D} {r:List D} (h1:(Ex gcL zAR L).x fr0=some (.next fr1)) (h2:(Ev gcL zAR I).t fr1=some true) (v1:zKz fr1=true)
  (h9:zAE 9 fr1=some (.val n)) (hl:zAE 324 fr1=some (.val (.list (a :: b :: r)))) (ind:zDm prog w 424 315 [zPm n a b,sN] none) (F:FL w A env O fr0 s 500) (hh:A.handled=none) (hfs:A.frames=some [env]) (hf:env.frame=some env.locals) (hcode:env.code= .ref 1305) (hsc:env.scope=Fs330) (htab:s.heap.get? 1303=some zJK) (hO13: ¬O 1303) {pI:Pos} {rest:List Stmt}
  {Q:Flow→Shared→Prop} (hQ: ∀s',zBA O s s'→(∃vs,s'.heap.get? 1303=some (tabObj (#[]++vs)))→Q (.ret (.bool true)) s'):
  wpAny (model prog w) A (execs (upS nm L :: .If (up nm I) [retX] [] pI :: rest) env) Q E s:=by
 have ae:=zEo (rc:=500) (zGB w) (zIy prog w) zAj
 have as:=zGy (rc:=500) (zGB w) (zIy prog w) zAj (zGJ prog w _)
 refine go1 (as L).1 F (by rw [hsc]; exact kL) h1 fun s1 O1 k1 n1 F1=> ?_
 refine zQN ((ae I).se.t A env _ fr1 s1 _ _ true F1.cx (by rw [hsc]; exact kI) h2 fun s2 q2=>⟨rfl, ?_⟩)
 have F2:=F1.keeps q2
 have sub1: ∀a o,s.heap.get? a=some o→O1 a→O a:=fun a o ho q=>(n1 a q).elim id fun q=>by rw [ho] at q; cases q
 have t1:=k1.get hO13 htab
 have t2:=Keeps.get q2 t1
 have nO1: ¬O1 1303:=fun q=>hO13 (sub1 _ _ htab q)
 have A2:zBA O s s2:=(zBA.of k1).kb (zAC.of (O:=fun V=>False) q2) fun V V V h=>h.elim
 have k9:kN env.scope 9=some .cell:=by rw [hsc]; decide +kernel
 have k324:kN env.scope 324=some .cell:=by rw [hsc]; decide +kernel
 obtain ⟨c9,_,hc9,_⟩:=F2.fw.cells (nm 9) k9
 obtain ⟨cl,_,hcl,_⟩:=F2.fw.cells (nm 324) k324
 have ne:nm 324≠nm 9:=fun q=>by have:=zEw q; lia
 rw [arm_eval_Compare]
 refine wpAny_bind ?_
 refine zGC (rc:=424) ind (by decide) F2 (zEg v1) hh hfs hf hcode t2 (clos0 hcl hc9) (by unfold Env.kindOf; rw [hsc]; decide +kernel) (fun V=>rfl) rfl rfl rfl zIt (by decide +kernel) (fun s1' env' P F1' e1 e2 hP s' ks live=> ?_) fun v s5 same af F5 rv htb=> ?_
 ·obtain ⟨v9,hcell9,r9⟩:=zEb F1' h9 k9 hc9 hP ks
  obtain ⟨vl,hcelll,rl⟩:=zEb F1' hl k324 hcl hP ks
  have kf:env'.scope.kind= .function:=by rw [e1]
  have a9: ∀{p:Pos},AOk prog w env' P s' (.Name (nm 9) p) n:=zLC kf (by unfold Env.kindOf; rw [e1]; decide +kernel) (by rw [e2]; show List.lookup (nm 9) [(nm 9,c9),(nm 324,cl)]=some c9; rw [List.lookup_cons]; simp) hcell9 r9 (by decide +kernel) (by decide +kernel)
  have al: ∀{p:Pos},AOk prog w env' P s' (.Name (nm 324) p) (.list (a :: b :: r)):=zLC kf (by unfold Env.kindOf; rw [e1]; decide +kernel) (by rw [e2]; show List.lookup (nm 324) [(nm 9,c9),(nm 324,cl)]=some cl; rw [List.lookup_cons,beq_false_of_ne ne]; show List.lookup (nm 324) [(nm 324,cl)]=some cl; rw [List.lookup_cons]; simp) hcelll rl (by decide +kernel) (by decide +kernel)
  refine zBI (zPB live (zBI (zNA (by decide +kernel)) (zBI (zPB live (zBI (zPB live (zBI (zNA (by decide +kernel)) (zBI a9 (zBI zPC zGv))) (by simp)) (zBI (zSn al zPC rfl) (zBI (zSn al zPC rfl) zGv))) (by simp)) zGv)) (by simp)) (zBI (zNA (by decide +kernel)) zGv)
 ·have A5:zBA O s s5:=by
   refine ⟨?_,fun b o hn hb ho=>af b o (fun q=>hn (sub1 _ _ ho (q▸F2.fw.loc))) hb (A2.2 b o hn hb ho)⟩
   obtain ⟨h',t',q⟩:=same; obtain ⟨⟨h'',t'',q'⟩,_⟩:=A2
   rw [q,q']; exact ⟨_,_,rfl⟩
  obtain ⟨vs,htb⟩:=htb
  refine (ae limL).sc.c _ A env _ fr1 s5 _ _ v (.str "limit") [.Eq] true F5.cx (by rw [hsc]; decide +kernel) rfl rv zLt fun s6 q6=> ?_
  exact hQ s6 (A5.kb (zAC.of (O:=fun V=>False) q6) fun V V V h=>h.elim) ⟨vs,Keeps.get q6 htb⟩
end
abbrev zOa:List Stmt:=upS nm lwL :: .If (up nm lwI) [retX] [] ⟨1234,4,1235,116⟩ :: upS nm lwT :: .Assign [.Name (nm 36) ⟨1237,4,1237,8⟩] zJW ⟨1237,4,1237,52⟩ :: zCW nm lwR
def Tail (prog:Program) (w:World) (fr0:Frm):Prop:=∀(A:Around) (env:Env) (O:Addr→Prop) (s:Shared) (E:Value→Shared→Prop) (Q:Flow→Shared→Prop),FL w A env O fr0 s 500→A.handled=none→A.frames=some [env]→env.frame=some env.locals→env.code= .ref 1305→env.scope=Fs330→s.heap.get? 1303=some zJK→¬O 1303→
 (∀s',zBA O s s'→(∃vs,s'.heap.get? 1303=some (tabObj (#[]++vs)))→Q (.ret (.bool true)) s')→wpAny (model prog w) A (execs zOa env) Q E s
theorem zQF:Sk lwL Fs330=true:=by decide +kernel
theorem kT_ok:Sk lwT Fs330=true:=by decide +kernel
theorem kR_ok:Sk lwR Fs330=true:=by decide +kernel
theorem zQG:(Ck lwI).k Fs330=true:=by decide +kernel
section
variable (prog:Program) (w:World) {f N ap:Int}
theorem zAd {indf:List D→Option D} (hi: ∀ds d,indf ds=some d→zDm prog w 424 315 ds (some d)) (h:zFd indf f N ap=some ()):Tail prog w (frC f N ap):=by
 obtain ⟨f1,h1,h⟩:=zAB h
 obtain ⟨fr1,rfl,h⟩:=zAY h
 obtain ⟨c,h2,h⟩:=zAB h
 cases c with
 | true=>cases h
 | false=>
  obtain ⟨f2,h3,h⟩:=zAB (show bnd ((Ex gcL zAR lwT).x fr1) _=some () from h)
  obtain ⟨fr2,rfl,h⟩:=zAY h
  obtain ⟨v2,h⟩:=zAD h
  obtain ⟨t,h4,h⟩:=zAB h
  obtain ⟨d,h5,h⟩:=zAB h
  obtain ⟨fl,h6,h⟩:=zAB h
  obtain rfl:=zEn h
  exact fun A env O s E Q F a1 a2 a3 a4 a5 a6 a7 hQ=>tail0 zQF zQG kT_ok kR_ok h1 h2 h3 v2 (zDy h4) (hi _ _ h5) h6 F a1 a2 a3 a4 a5 a6 a7 hQ
theorem zBs (h:zIr N ap=some ()):Tail prog w (frC 1 N ap):=by
 obtain ⟨f1,h1,h⟩:=zAB h
 obtain ⟨fr1,rfl,h⟩:=zAY h
 obtain ⟨c,h2,h⟩:=zAB h
 cases c with
 | false=>cases h
 | true=>
  obtain ⟨v1,h⟩:=zAD (show zAA (zKz fr1) _ none=some () from h)
  obtain ⟨n,h3,h⟩:=zAB h
  obtain ⟨ls,h4,h⟩:=zAB h
  obtain ⟨a,b,r,rfl,h⟩:=zLU h
  obtain ⟨d,h5,_⟩:=zAB h
  exact fun A env O s E Q F a1 a2 a3 a4 a5 a6 a7 hQ=>tail1 zQF zQG h1 h2 v1 (zDy h3) (zDy h4) (ind_b (rc:=419) (zDG prog w) h5) F a1 a2 a3 a4 a5 a6 a7 hQ
end
theorem zNY:zFd (zNa zAR) 0 1 1=some ():=by kernel_rfl
theorem zNX:zFd (zNa zAR) 0 1 2=some ():=by kernel_rfl
theorem zMW:zIr 1 450=some ():=by kernel_rfl
theorem zMK:zFd (zIL zAR) 2 1 450=some ():=by kernel_rfl
theorem zMX:zIr 1 400=some ():=by kernel_rfl
theorem zML:zFd (zIL zAR) 2 1 400=some ():=by kernel_rfl
theorem zMZ:zIr 1 300=some ():=by kernel_rfl
theorem zMN:zFd (zIL zAR) 2 1 300=some ():=by kernel_rfl
theorem zMY:zIr 1 350=some ():=by kernel_rfl
theorem zMM:zFd (zIL zAR) 2 1 350=some ():=by kernel_rfl
theorem zNW:zFd (zNa zAR) 0 2 1=some ():=by kernel_rfl
theorem zNV:zFd (zNa zAR) 0 2 2=some ():=by kernel_rfl
theorem zMS:zIr 2 450=some ():=by kernel_rfl
theorem zMG:zFd (zIL zAR) 2 2 450=some ():=by kernel_rfl
theorem zMT:zIr 2 400=some ():=by kernel_rfl
theorem zMH:zFd (zIL zAR) 2 2 400=some ():=by kernel_rfl
theorem zMV:zIr 2 300=some ():=by kernel_rfl
theorem zMJ:zFd (zIL zAR) 2 2 300=some ():=by kernel_rfl
theorem zMU:zIr 2 350=some ():=by kernel_rfl
theorem zMI:zFd (zIL zAR) 2 2 350=some ():=by kernel_rfl
theorem zNU:zFd (zNa zAR) 0 3 1=some ():=by kernel_rfl
theorem zNT:zFd (zNa zAR) 0 3 2=some ():=by kernel_rfl
theorem zMO:zIr 3 450=some ():=by kernel_rfl
theorem zMC:zFd (zIL zAR) 2 3 450=some ():=by kernel_rfl
theorem zMP:zIr 3 400=some ():=by kernel_rfl
theorem zMD:zFd (zIL zAR) 2 3 400=some ():=by kernel_rfl
theorem zMR:zIr 3 300=some ():=by kernel_rfl
theorem zMF:zFd (zIL zAR) 2 3 300=some ():=by kernel_rfl
theorem zMQ:zIr 3 350=some ():=by kernel_rfl
theorem zME:zFd (zIL zAR) 2 3 350=some ():=by kernel_rfl
theorem tails (prog:Program) (w:World): ∀r1 r2 r3:Int,0≤r1→r1 < 3→0≤r2→r2 < 3→0≤r3→r3 < 4→∀ap,(apL r1)[r3.toNat]? =some ap→∃i,ap= .int i∧Tail prog w (frC r1 (Int.add 1 r2) i):=by
 intro r1 r2 r3 a1 b1 a2 b2 a3 b3 ap hap
 have ha: ∀ds d,zNa zAR ds=some d→zDm prog w 424 315 ds (some d):=fun ds d h=>ind_a (rc:=419) (zDG prog w) h
 have hc: ∀ds d,zIL zAR ds=some d→zDm prog w 424 315 ds (some d):=fun ds d h=>ind_c (rc:=419) (zDG prog w) h
 rcases (show r1=0∨r1=1∨r1=2 by lia) with rfl | rfl | rfl <;> rcases (show r2=0∨r2=1∨r2=2 by lia) with rfl | rfl | rfl <;> rcases (show r3=0∨r3=1∨r3=2∨r3=3 by lia) with rfl | rfl | rfl | rfl <;> cases hap
 ·exact ⟨_,rfl,zAd prog w ha zNY⟩
 ·exact ⟨_,rfl,zAd prog w ha zNX⟩
 ·exact ⟨_,rfl,zAd prog w ha zNY⟩
 ·exact ⟨_,rfl,zAd prog w ha zNX⟩
 ·exact ⟨_,rfl,zAd prog w ha zNW⟩
 ·exact ⟨_,rfl,zAd prog w ha zNV⟩
 ·exact ⟨_,rfl,zAd prog w ha zNW⟩
 ·exact ⟨_,rfl,zAd prog w ha zNV⟩
 ·exact ⟨_,rfl,zAd prog w ha zNU⟩
 ·exact ⟨_,rfl,zAd prog w ha zNT⟩
 ·exact ⟨_,rfl,zAd prog w ha zNU⟩
 ·exact ⟨_,rfl,zAd prog w ha zNT⟩
 ·exact ⟨_,rfl,zBs prog w zMW⟩
 ·exact ⟨_,rfl,zBs prog w zMX⟩
 ·exact ⟨_,rfl,zBs prog w zMZ⟩
 ·exact ⟨_,rfl,zBs prog w zMY⟩
 ·exact ⟨_,rfl,zBs prog w zMS⟩
 ·exact ⟨_,rfl,zBs prog w zMT⟩
 ·exact ⟨_,rfl,zBs prog w zMV⟩
 ·exact ⟨_,rfl,zBs prog w zMU⟩
 ·exact ⟨_,rfl,zBs prog w zMO⟩
 ·exact ⟨_,rfl,zBs prog w zMP⟩
 ·exact ⟨_,rfl,zBs prog w zMR⟩
 ·exact ⟨_,rfl,zBs prog w zMQ⟩
 ·exact ⟨_,rfl,zAd prog w hc zMK⟩
 ·exact ⟨_,rfl,zAd prog w hc zML⟩
 ·exact ⟨_,rfl,zAd prog w hc zMN⟩
 ·exact ⟨_,rfl,zAd prog w hc zMM⟩
 ·exact ⟨_,rfl,zAd prog w hc zMG⟩
 ·exact ⟨_,rfl,zAd prog w hc zMH⟩
 ·exact ⟨_,rfl,zAd prog w hc zMJ⟩
 ·exact ⟨_,rfl,zAd prog w hc zMI⟩
 ·exact ⟨_,rfl,zAd prog w hc zMC⟩
 ·exact ⟨_,rfl,zAd prog w hc zMD⟩
 ·exact ⟨_,rfl,zAd prog w hc zMF⟩
 ·exact ⟨_,rfl,zAd prog w hc zME⟩
theorem zMh {f N ap:Int} {x:Nat} {sl:Slot} (h:zAE x (frC f N ap)=some sl):(x=322∧sl= .val (.int f))∨(x=9∧sl= .val (.int N))∨(x=323∧sl= .val (.int ap)):=by
 have h:zAA (Nat.beq 322 x) (some (Slot.val (.int f))) (zAA (Nat.beq 9 x) (some (Slot.val (.int N))) (zAA (Nat.beq 323 x) (some (Slot.val (.int ap))) none))=some sl:=h
 cases q:Nat.beq 322 x with
 | true=>rw [q,zAJ] at h; cases h; exact .inl ⟨(Nat.eq_of_beq_eq_true q).symm,rfl⟩
 | false=>
  rw [q,zAF] at h
  cases q':Nat.beq 9 x with
  | true=>rw [q',zAJ] at h; cases h; exact .inr (.inl ⟨(Nat.eq_of_beq_eq_true q').symm,rfl⟩)
  | false=>
   rw [q',zAF] at h
   cases q'':Nat.beq 323 x with
   | true=>rw [q'',zAJ] at h; cases h; exact .inr (.inr ⟨(Nat.eq_of_beq_eq_true q'').symm,rfl⟩)
   | false=>rw [q'',zAF] at h; cases h
section
variable {prog:Program} {w:World} {A:Around} {env:Env} {O:Addr→Prop} {fr:Frm} {s:Shared} {E:Value→Shared→Prop}
def Step2 (prog:Program) (w:World) (ys:List Int) (st:Stmt):Prop:=∀(A:Around) (env:Env) (O:Addr→Prop) (fr:Frm) (s:Shared) (E:Value→Shared→Prop) (Q:Flow→Shared→Prop),FL w A env O fr s 500→A.handled=none→env.scope=Fs330→zAE 317 fr=some (zHo ys 0)→
 (∀r1 r2 s',0≤r1→r1 < 3→0≤r2→r2 < 3→zAC O s s'→FL w A env O (zBV 9 (.val (.int (Int.add 1 r2))) (zBV 322 (.val (.int r1)) (zBV 317 (zHo ys 2) (zBV 317 (zHo ys 1) fr)))) s' 500→Q .next s')→wpAny (model prog w) A (exec st env) Q E s
def Step3 (prog:Program) (w:World) (ys:List Int) (st:Stmt):Prop:=∀(A:Around) (env:Env) (O:Addr→Prop) (fr:Frm) (s:Shared) (E:Value→Shared→Prop) (Q:Flow→Shared→Prop) (f:Int),FL w A env O fr s 500→A.handled=none→env.scope=Fs330→zAE 317 fr=some (zHo ys 2)→zAE 322 fr=some (.val (.int f))→0≤f→f < 3→
 (∀(r:Int) ap s',0≤r→r < 4→(apL f)[r.toNat]? =some ap→zAC O s s'→FL w A env O (zBV 323 (.val ap) (zBV 317 (zHo ys 3) fr)) s' 500→Q .next s')→wpAny (model prog w) A (exec st env) Q E s
def zPD (prog:Program) (w:World) (rest:List Stmt) (fr0:Frm):Prop:=∀(A:Around) (env:Env) (O:Addr→Prop) (s:Shared) (E:Value→Shared→Prop) (Q:Flow→Shared→Prop),FL w A env O fr0 s 500→A.handled=none→A.frames=some [env]→env.frame=some env.locals→env.code= .ref 1305→env.scope=Fs330→s.heap.get? 1303=some zJK→¬O 1303→
 (∀s',zBA O s s'→(∃vs,s'.heap.get? 1303=some (tabObj (#[]++vs)))→Q (.ret (.bool true)) s')→wpAny (model prog w) A (execs rest env) Q E s
theorem zOZ {S1:S} {t2 t3:Stmt} {rest:List Stmt} {xd:D} {ys:List Int} (kS:Sk S1 Fs330=true) (h1:(Ex gcL zAR S1).x [(321, .val xd)]=some (.next [(321, .val xd),(317,zHo ys 0)])) (H2:Step2 prog w ys t2) (H3:Step3 prog w ys t3) (T: ∀r1 r2 r3:Int,0≤r1→r1 < 3→0≤r2→r2 < 3→0≤r3→r3 < 4→∀ap,(apL r1)[r3.toNat]? =some ap→∃i,ap= .int i∧zPD prog w rest (frC r1 (Int.add 1 r2) i)):
  zPD prog w (upS nm S1 :: t2 :: t3 :: rest) [(321, .val xd)]:=by
 intro A env O s E Q F hh hfs hf hcode hsc htab hO13 hQ
 have as:=zGy (rc:=500) (zGB w) (zIy prog w) zAj (zGJ prog w _)
 refine go1 (as S1).1 F (by rw [hsc]; exact kS) h1 fun s1 O1 k1 n1 F1=> ?_
 refine wpAny_execs_cons (H2 A env O1 _ s1 _ _ F1 hh hsc rfl fun r1 r2 s2 a1 b1 a2 b2 k2 F2=> ?_)
 refine wpAny_execs_cons (H3 A env O1 _ s2 _ _ r1 F2 hh hsc (by simp [zAT]) (by simp [zAT]) a1 b1 fun r3 ap s3 a3 b3 hap k3 F3=> ?_)
 obtain ⟨i,rfl,T⟩:=T r1 r2 r3 a1 b1 a2 b2 a3 b3 ap hap
 have sub1: ∀a o,s.heap.get? a=some o→O1 a→O a:=fun a o ho q=>(n1 a q).elim id fun q=>by rw [ho] at q; cases q
 have nO1: ¬O1 1303:=fun q=>hO13 (sub1 _ _ htab q)
 have A3:zBA O s s3:=((zBA.of k1).kb k2 sub1).kb k3 sub1
 have t3:s3.heap.get? 1303=some zJK:=k3.get nO1 (k2.get nO1 (k1.get hO13 htab))
 refine T A env O1 s3 E Q ⟨F3.fw.congr fun x sl e=> ?_,F3.hand,F3.hp,F3.gl,F3.dep,F3.un⟩ hh hfs hf hcode hsc t3 nO1 fun s' af htb=>hQ s' ⟨?_,fun b o hn hb ho=> ?_⟩ htb
 ·rcases zMh e with ⟨rfl,rfl⟩ | ⟨rfl,rfl⟩ | ⟨rfl,rfl⟩ <;> simp [zAT]
 ·obtain ⟨⟨h',t',q⟩,_⟩:=A3; obtain ⟨⟨h'',t'',q'⟩,_⟩:=af
  rw [q',q]; exact ⟨_,_,rfl⟩
 ·exact af.2 b o (fun q=>hn (sub1 b o ho q)) hb (A3.2 b o hn hb ho)
end
section
variable {prog:Program} {w:World} {A:Around} {s:Shared} {E:Value→Shared→Prop}
theorem zQQ {P:Params} {a:Addr} {o:Obj} {fd:FuncData} (h1:mgP P (nm 330)=some (.ref a)) (h2:(GL P).get? a=some o) (h3:o.data= .func fd):fd.code= .ref 1305:=by
 obtain ⟨c1,c2⟩:=Prod.mk.inj (zQC P)
 have ea:a=1306:=by
  have:(some (Value.ref a):Option Value)=some (.ref 1306):=h1.symm.trans c2
  cases this; rfl
 subst ea
 have h4:=zQP h2
 unfold zFG at c1
 rw [h4] at c1
 dsimp only at c1
 rw [h3] at c1
 exact c1
theorem zLw {body:List Stmt} {xs:List Int} (hb:zCW nm (Fn.mk [321] Fs330 Fb330).body=body) (T:zPD prog w body [(321, .val (.list (xs.map PyData.int)))]): ∃a,mgP w.params (nm 330)=some (.ref a)∧∀(A:Around) (s:Shared) (sa:Addr) (vs:Array Value) (n:Nat) (Q:Value→Shared→Prop) (E:Value→Shared→Prop),zHB w.params s→s.heap.get? 1303=some zJK→s.heap.get? sa=some (zBz vs n)→zAK (fun V=>False) s.heap vs.toList (xs.map PyData.int)→A.handled=none→A.frames=some []→A.depth + 501≤900→A.units + 16 * 501 + 200≤9800→
  (∀s',(∃h' t',s'={s with heap:=h',toks:=t'})→(∀b o,b≠1303→s.heap.get? b=some o→s'.heap.get? b=some o)→(∃vs,s'.heap.get? 1303=some (tabObj (#[]++vs)))→Q (.bool true) s')→wpAny (model prog w) A (PySem.call (.ref a) [.ref sa]) Q E s:=by
 obtain ⟨a,o,fd,e1,e2,e3,enter⟩:=zBo (rc:=500) (prog:=prog) (zBO w) (zQa _).gl (by decide +kernel)
 refine ⟨a,e1, ?_⟩
 intro A s sa vs n Q E G htab hsa rs hh hfs dep un hQ
 refine enter A (fun V=>False) s [.ref sa] Q E (fun a o e=>⟨G a o e,id⟩) (fun V h=>h.elim) (.inl hh) (fun V V=>id) dep un rfl fun env s₁ O K hnew hsc hgl ⟨hf,hcode⟩ _ hFC=> ?_
 have F:=hFC [(321, .val (.list (xs.map PyData.int)))] fun x sl e=>by
  have e:zAA (Nat.beq 321 x) (some (Slot.val (.list (xs.map PyData.int)))) none=some sl:=e
  cases q:Nat.beq 321 x with
  | false=>rw [q,zAF] at e; cases e
  | true=>
   rw [q,zAJ] at e; cases e
   have:=(Nat.eq_of_beq_eq_true q).symm
   subst this
   exact ⟨.ref sa,_,rfl,by simp, .list hsa id rs⟩
 rw [hb]
 refine T (A.deeper env) env O s₁ _ _ F hh (Around.frames_deeper hfs) hf (hcode.trans (zQQ e1 e2 e3)) hsc (Keeps.get K htab) (fun q=>by rw [hnew _ q] at htab; cases htab) fun s' af htb=> ?_
 refine hQ s' ?_ (fun b o hb ho=>af.2 b o (fun q=>by rw [hnew _ q] at ho; cases ho) hb (Keeps.get K ho)) htb
 obtain ⟨⟨h',t',q⟩,_⟩:=af; obtain ⟨h'',t'',q',_⟩:=K
 rw [q,q']; exact ⟨_,_,rfl⟩
theorem zOY (xs:List Int) (hlen:xs.length≤63): ∃a,mgP w.params (nm 330)=some (.ref a)∧∀(A:Around) (s:Shared) (sa:Addr) (vs:Array Value) (n:Nat) (Q:Value→Shared→Prop) (E:Value→Shared→Prop),zHB w.params s→s.heap.get? 1303=some zJK→s.heap.get? sa=some (zBz vs n)→zAK (fun V=>False) s.heap vs.toList (xs.map PyData.int)→A.handled=none→A.frames=some []→A.depth + 501≤900→A.units + 16 * 501 + 200≤9800→
  (∀s',(∃h' t',s'={s with heap:=h',toks:=t'})→(∀b o,b≠1303→s.heap.get? b=some o→s'.heap.get? b=some o)→(∃vs,s'.heap.get? 1303=some (tabObj (#[]++vs)))→Q (.bool true) s')→wpAny (model prog w) A (PySem.call (.ref a) [.ref sa]) Q E s:=by
 have c420:zAW prog w (GG w) (mgP w.params) zAR 420:=zDG prog w
 exact zLw zLy (zOZ (by decide +kernel) (zOG xs hlen) (fun A env O fr s E Q F hh hsc hf hQ=>zQB (rc:=421) (take0 c420) (take1 c420) (by decide) F hh hsc (zDQ xs) hf hQ)
  (fun A env O fr s E Q f F hh hsc hf h322 f0 f3 hQ=>zQA (rc:=421) (zIy prog w) (take2 c420) (by decide) F hh hsc (zDQ xs) hf h322 f0 f3 hQ) fun r1 r2 r3 a1 b1 a2 b2 a3 b3 ap hap=>tails prog w r1 r2 r3 a1 b1 a2 b2 a3 b3 ap hap)
end
def hGR (k i l f n t n' t':Nat) (q q':Pos):Prop:=∀w:World,(fun (p:Program) (b:List Stmt) (os:OsState)=>PySem.W.Fast.tw10110043849684766642 PySem.W.Fast.tw14364793385576792824 p w 11 (some (.ref 6)) 1 f (hsT w k n t os) (piecesOf ((hBO.drop i).take l) heN (Code.body b heN) q [topFrame p0]))=fun V b os=>some (Flow.next,hsT w (k + 1) n' t' os,Code.body b heN,q')
theorem hGR.run {k i l f n t n' t' q q'} (h:hGR k i l f n t n' t' q q') (w:World) (p:Program) (b:List Stmt) (os:OsState) {hN:Nat} {r:Shared}
  (e:topRun treeTable p w 11 (some (.ref 6)) hN (hsT w (k + 1) n' t' os).abs (restOf (hBO.drop (i + l)) heN (Code.body b heN) q' [topFrame p0])=some r):
  topRun treeTable p w 11 (some (.ref 6)) (f + hN) (hsT w k n t os).abs (restOf (hBO.drop i) heN (Code.body b heN) q [topFrame p0])=some r:=by
 have h1:=congrFun (congrFun (congrFun (h w) p) b) os
 rw [←PySem.W.Fast.te10110043849684766642, ←PySem.W.Fast.te14364793385576792824] at h1
 have h2:=piece_app (rest:=hBO.drop (i + l)) (segRun_of h1) e
 rw [show (hBO.drop i).take l++hBO.drop (i + l)=hBO.drop i by rw [←List.drop_drop]; exact List.take_append_drop l _] at h2
 exact h2
theorem hx1:hGR 0 0 7 373 15 187 63 258 ⟨0,0,0,0⟩ ⟨26,0,32,12⟩:=fun V=>by kernel_rfl
theorem hx2:hGR 1 7 16 401 63 258 147 364 ⟨26,0,32,12⟩ ⟨78,0,79,23⟩:=fun V=>by kernel_rfl
theorem hx3:hGR 2 23 16 389 147 364 227 465 ⟨78,0,79,23⟩ ⟨115,0,121,16⟩:=fun V=>by kernel_rfl
theorem hx4:hGR 3 39 11 398 227 465 285 558 ⟨115,0,121,16⟩ ⟨156,0,161,47⟩:=byRow2 "special-get-raises" (fun V=>by kernel_rfl) fun V=>by kernel_rfl
theorem hx5:hGR 4 50 17 374 285 558 348 668 ⟨156,0,161,47⟩ ⟨227,0,233,43⟩:=fun V=>by kernel_rfl
theorem hx6:hGR 5 67 12 369 348 668 426 778 ⟨227,0,233,43⟩ ⟨346,0,349,43⟩:=fun V=>by kernel_rfl
theorem hx7:hGR 6 79 17 397 426 778 502 883 ⟨346,0,349,43⟩ ⟨468,0,482,64⟩:=fun V=>by kernel_rfl
theorem hx8:hGR 7 96 14 374 502 883 580 984 ⟨468,0,482,64⟩ ⟨527,0,528,53⟩:=fun V=>by kernel_rfl
theorem hx9:hGR 8 110 14 391 580 984 663 1089 ⟨527,0,528,53⟩ ⟨575,0,576,27⟩:=fun V=>by kernel_rfl
theorem hx10:hGR 9 124 14 380 663 1089 742 1191 ⟨575,0,576,27⟩ ⟨637,0,638,26⟩:=fun V=>by kernel_rfl
theorem hx11:hGR 10 138 14 375 742 1191 822 1291 ⟨637,0,638,26⟩ ⟨696,0,697,28⟩:=fun V=>by kernel_rfl
theorem hx12:hGR 11 152 14 374 822 1291 895 1405 ⟨696,0,697,28⟩ ⟨769,0,769,8⟩:=fun V=>by kernel_rfl
theorem hx13:hGR 12 166 13 380 895 1405 975 1517 ⟨769,0,769,8⟩ ⟨829,0,832,80⟩:=fun V=>by kernel_rfl
theorem hx14:hGR 13 179 14 370 975 1517 1047 1623 ⟨829,0,832,80⟩ ⟨892,0,898,19⟩:=fun V=>by kernel_rfl
theorem hx15:hGR 14 193 17 399 1047 1623 1116 1737 ⟨892,0,898,19⟩ ⟨991,0,992,51⟩:=fun V=>by kernel_rfl
theorem hx16:hGR 15 210 15 390 1116 1737 1192 1849 ⟨991,0,992,51⟩ ⟨1064,0,1065,55⟩:=fun V=>by kernel_rfl
theorem hx17:hGR 16 225 16 397 1192 1849 1268 1961 ⟨1064,0,1065,55⟩ ⟨1168,0,1174,99⟩:=fun V=>by kernel_rfl
theorem hx18:hGR 17 241 8 207 1268 1961 1307 2023 ⟨1168,0,1174,99⟩ ⟨1229,0,1246,15⟩:=fun V=>by kernel_rfl
noncomputable abbrev pK:Pos:=⟨1229,0,1246,15⟩
noncomputable abbrev SB (w:World) (os:OsState):Shared:=(hsT w 0 15 187 os).abs
noncomputable abbrev SK (w:World) (os:OsState):Shared:=(hsT w 18 1307 2023 os).abs
theorem opens:opening pw=plainProg pw.main.scope.names:=by kernel_rfl
theorem zQZ: ∀s,fenceModules? pw s=some s:=fun s=>by kernel_rfl
theorem open_: ∀w:World,(fencedOpening treeTable pw w 14000).map (fun s=>(s.heap,s.gens,s.drawn,s.toks))=some (boot_heap w.params,{toList:=[]},boot_drawn,boot_toks):=
 boot_open opens (by decide) zQZ
theorem size_: ∀w:World,((boot_heap w.params).isNs mainGlobals&&(({toList:=[]}:Array GenState).size==0),(boot_heap w.params).objs.size,(boot_heap w.params).nsMap mainGlobals "__annotations__")=(true,11,some (Value.ref 6)):=fun w=>by kernel_rfl
theorem fin_ (w:World) (os:OsState):topRun treeTable pw w 11 (some (Value.ref 6)) 2 (SK w os) (restOf (hBO.drop (241 + 8)) heN (Code.body hBO heN) pK [topFrame p0])=some (SK w os):=by kernel_rfl
theorem pre_ (w:World) (os:OsState):topGo treeTable pw w 11 (some (Value.ref 6)) 12 ⟨boot_heap w.params,{toList:=[]},boot_drawn,boot_toks,os⟩ (topStub pw)=
  some (SB w os,⟨denote treeTable (Code.body hBO heN),Code.body hBO heN,p0,[topFrame p0]⟩):=by kernel_rfl
theorem zSl (w:World) (os:OsState):segRun treeTable pw w 11 (some (Value.ref 6)) 1 1 (SB w os) (blockOf hBO heN (Code.body hBO heN) p0 [topFrame p0])=
  some (Flow.next,SB w os,Code.body hBO heN,p0):=by kernel_rfl
theorem runC (w:World) (os:OsState):topRun treeTable pw w 11 (some (Value.ref 6)) (12 + (1 + 6740)) ⟨boot_heap w.params,{toList:=[]},boot_drawn,boot_toks,os⟩ (topStub pw)=some (SK w os):=
 go_top (pre_ w os) (piece_block (zSl w os) (hx1.run (hN:=6367) w pw hBO os (hx2.run (hN:=5966) w pw hBO os (hx3.run (hN:=5577) w pw hBO os (hx4.run (hN:=5179) w pw hBO os (hx5.run (hN:=4805) w pw hBO os (hx6.run (hN:=4436) w pw hBO os (hx7.run (hN:=4039) w pw hBO os (hx8.run (hN:=3665) w pw hBO os (hx9.run (hN:=3274) w pw hBO os (hx10.run (hN:=2894) w pw hBO os (hx11.run (hN:=2519) w pw hBO os (hx12.run (hN:=2145) w pw hBO os (hx13.run (hN:=1765) w pw hBO os (hx14.run (hN:=1395) w pw hBO os (hx15.run (hN:=996) w pw hBO os (hx16.run (hN:=606) w pw hBO os (hx17.run (hN:=209) w pw hBO os (hx18.run (hN:=2) w pw hBO os (fin_ w os))))))))))))))))))))
def zIq:List Str:=pw.main.body.filterMap fun st=>match st with
 | .FunctionDef n _ _ _ _ _ _ _ _ _=>if n==("law":Str) then none else some n
 | .ClassDef n _ _ _ _ _ _ _ _ _ _=>some n
 | .Assign [.Name n _] _ _=>some n
 | _=>none
def q:Program:=view pw [248]
theorem look1 (w:World):(fun os:OsState=>(staticsOk (importedModules pw.main.body) (boot_heap w.params) (H1 w.params)&&namesBound pw (H1 w.params)&&gensDone ⟨H1 w.params,{toList:=[]},{},2023,os⟩&&laidKept (boot_heap w.params) (H1 w.params)))=fun V=>true:=by kernel_rfl
theorem look2 (w:World):(fun os:OsState=>openSeen q zIq (importedModules pw.main.body) (fun V=>true) true ⟨H1 w.params,{toList:=[]},{},2023,os⟩)=fun V=>openGood q zIq:=by kernel_rfl
abbrev lw:OpenLaw:=PySem.Challenge.rw_rh0057_01
abbrev rw:OpenRow:=lw.row
def YP (w:World) (h:Heap):Prop:=∀b o,(H1 w.params).get? b=some o→h.get? b=some o
theorem left_:LeftO rw.prog q zIq (fun V=>true) (fun s=>s.heap) (fun w=>H1 w.params) 14000 true:=
 LeftO.of_pieces (H₀:=fun P=>boot_heap P) (H₁:=H1) (gs₀:={toList:=[]}) (gs₁:={toList:=[]}) (d₀:=boot_drawn) (d₁:={}) (k₀:=boot_toks) (k₁:=2023) (m₀:=11) (ann:=some (Value.ref 6)) (M:=12 + (1 + 6740))
  open_ size_ runC (by decide) fun w=>by
   funext os
   exact Prod.ext (congrFun (look1 w) os) (Prod.ext (congrFun (look2 w) os) rfl)
noncomputable def zLM:DefRec:=match defOf q rw.name with | some x=>x.1 | none=>⟨"",default,[],default,default⟩
theorem zOi (call:WalkO q zIq (fun V V=>True) YP rw.toRowW zLM [] fun f vs=>PySem.call f vs) (k1:rw.wellSaid=true)
  (ok:(chainsOk q&&opensWell rw.prog&&(frees rw.toRowW&&rw.within.isEmpty))=true) (hw:rw.toRowW.promised):rw.Holds:=by
 have h1:defOf q rw.name=some (zLM,[]):=by kernel_rfl
 have h2:rw.prog.theDef rw.name=some (zLM.params,zLM.body,zLM.scope):=by kernel_rfl
 have h3:kwWritten? zLM.params.kwonlyargs zLM.params.kw_defaults=some []:=by kernel_rfl
 exact holds_open left_ (fun w s e b o h=>by rw [show s.heap=H1 w.params from e]; exact h) (fun w h h' y k b o e=>k b o (y b o e)) (fun V V=>trivial) (fun V V V V V=>trivial) h1 h2 h3 (fun V V=>recFacts_nil rfl) rfl k1 ok ⟨rfl,rfl,rfl,rfl,rfl,by decide +kernel⟩ hw call
theorem ok_:(chainsOk q&&opensWell rw.prog&&(frees rw.toRowW&&rw.within.isEmpty))=true:=by decide +kernel
theorem zOf {xs:List WData}:WShape.hasItems [] xs .int=true→∃is:List Int,xs=is.map WData.int:=by
 induction xs with
 | nil=>exact fun V=>⟨[],rfl⟩
 | cons x xs ih=>
  intro h
  rw [WShape.hasItems,Bool.and_eq_true] at h
  obtain ⟨is,rfl⟩:=ih h.2
  have h:=h.1
  cases x with
  | int i=>exact ⟨i :: is,rfl⟩
  | _=>exact Bool.noConfusion (show false=true from h)
theorem zOU:lw.most=some 63:=by kernel_rfl
theorem zLs:lw.bound=none:=by kernel_rfl
theorem zOJ {is:List Int} (h:WTm.holds [] lw.pre {args:=[.list (is.map WData.int)]}=true):is.length≤63:=by
 unfold OpenLaw.pre at h
 rw [zOU,zLs] at h
 simp [WTm.holds,WTm.value] at h
 by_cases q:(63:Int) < is.length
 ·simp [less?,Num.less?,q] at h
 ·lia
theorem zJR {P:Params} {h:Heap} {is:List Int}: ∀{vs:List Value},WellAll P h vs (is.map WData.int)→zAK (fun V=>False) h vs (is.map PyData.int):=by
 induction is with
 | nil=>intro vs r; cases r; exact .nil
 | cons i is ih=>intro vs r; cases r with
  | cons a b=>cases a with
   | int _ t=>exact .cons (.int i t) (ih b)
theorem call_ok:WalkO q zIq (fun V V=>True) YP rw.toRowW zLM [] fun f vs=>PySem.call f vs:=by
 intro w s₀ s₁ mg mb G Y a o pm cd doc dV kV ho hdata hcd hdf hmg hgens args vals as hpre hlay hreads hwell has
 have hs:=pre_splitW hpre
 have hs1:WShape.hasAll [] args [.list .int]=true:=hs.1
 obtain ⟨d,r,rfl,h1,h2⟩:=hasAllW_cons hs1
 obtain rfl:=hasAllW_nil h2
 cases d with
 | list xs=>
  have h1:WShape.hasItems [] xs .int=true:=(Bool.or_false _).symm.trans h1
  obtain ⟨is,rfl⟩:=zOf h1
  have hlen:=zOJ (show WTm.holds [] lw.pre {args:=[.list (is.map WData.int)]}=true from hs.2)
  cases hwell with
  | cons wv wr=>
   cases wr
   cases wv with
   | @list sa vs _ hsa hws=>
    obtain ⟨la,e1,run⟩:=zOY (prog:=rw.toRowW.prog) (w:=w) is hlen
    have n1:=zFe w.params
    simp only [Bool.and_eq_true] at n1
    obtain ⟨⟨⟨⟨n1,_⟩,_⟩,_⟩,_⟩:=n1
    have emg:mg=mgP w.params:=zDj G.T.g ((Heap.Ns.of_isNs n1).keeps fun b o e=>Y b o e)
    have ea:a=la:=by
     rw [emg] at hmg
     have e1':mgP w.params zLM.name=some (.ref la):=e1
     rw [e1'] at hmg
     cases hmg; rfl
    subst ea
    have G1:zHB w.params s₁:=fun b o e=>Y b o (zQP e)
    have htab:=Y _ _ (zNF w.params)
    refine run callerA s₁ sa vs.toArray _ _ _ G1 htab hsa (by simpa using zJR hws) rfl rfl (by decide) (by decide) fun s' same keep htb=> ?_
    obtain ⟨h',t',rfl⟩:=same
    obtain ⟨vt,htb⟩:=htb
    refine ⟨.inl ⟨.bool true, .bool true,[],rfl,fun V=>rfl, .bool true, ?_,fun V=>⟨List.nodup_nil,fun V h=>by cases h⟩⟩,⟨fun b o e=> ?_,fun b o e=> ?_⟩,rfl,AllBare.of_eq hgens⟩
    ·kernel_rfl
    ·by_cases hb:b=1303
     ·subst hb
      rw [htab] at e; cases e
      obtain ⟨oc,vc,f,tf,fl,tg,bb,tx,tt,hoc,hcc,hdc,h11,_⟩:=zNE w.params G1
      exact .inr (.inl ⟨⟨1305,oc,vc,hoc,hcc,hdc,h11⟩,rfl, #[],vt,rfl,htb⟩)
     ·exact .inl (keep b o hb e)
    ·by_cases hb:b=1303
     ·exact ⟨_,hb▸htb⟩
     ·exact ⟨o,keep b o hb e⟩
 | _=>exact Bool.noConfusion (show false=true from h1)
theorem said_:lw.wellSaid=true:=by
 delta OpenLaw.wellSaid OpenRow.wellSaid
 try delta OpenRow.partSaid
 try delta looksOpen
 with_reducible repeat' refine look_both ?_ ?_
 all_goals ((try rw [PySem.W.Fast.te8326940854005059898]);(try rw [PySem.W.Fast.te17119622794617984870]);(try rw [PySem.W.Fast.te9558739934217749035]);(try rw [PySem.W.Fast.te16286561074155671207]);(try rw [PySem.W.Fast.te8377067652309620493]);(try rw [PySem.W.Fast.te12862048085361865435]);(try rw [PySem.W.Fast.te11788848310118352699]);(try rw [PySem.W.Fast.te18344453789297297638]);(try rw [PySem.W.Fast.te797321630700447069]);(try rw [PySem.W.Fast.te10792542408131684335]);(try rw [PySem.W.Fast.te6984425678791042302]);(try rw [PySem.W.Fast.te17868728402115742887]);(try rw [PySem.W.Fast.te3471404346716756564]);(try rw [PySem.W.Fast.te8179353310426384613]);(try rw [PySem.W.Fast.te9807087744658564304]);(try rw [PySem.W.Fast.te7723801398212525404]);(try rw [PySem.W.Fast.te5923862056798008813]);(try rw [PySem.W.Fast.te13343964577679436407]);(try rw [PySem.W.Fast.te14412699480532031325]);(try rw [PySem.W.Fast.te17691160309236699985]);(try rw [PySem.W.Fast.te9572597257264208301]);(try rw [PySem.W.Fast.te17095254045102204799]);(try rw [PySem.W.Fast.te12879404354523853263]);(try rw [PySem.W.Fast.te10501279942588096481]);(try rw [PySem.W.Fast.te482687673346738481]);(try rw [PySem.W.Fast.te2368527892694137696]);(try rw [PySem.W.Fast.te2357444279172408678]);(try rw [PySem.W.Fast.te12749700546528644094]);(try rw [PySem.W.Fast.te4857012375875476094]);(try rw [PySem.W.Fast.named_eq]);(try rw [PySem.W.R.allR_eq]);(try rw [PySem.W.R.filterR_eq]))
 all_goals decide +kernel
theorem lawH (call:WalkO q zIq (fun V V=>True) YP rw.toRowW zLM [] fun f vs=>PySem.call f vs):lw.Holds:=by
 w_on
 exact holds_law said_ fun said=>zOi call said ok_ (by w_witness2)
end
end Mine
open PySem PySem.W PyProof.Rows
theorem PySem.Challenge.cw_rh0057_01_holds : PySem.Challenge.rw_rh0057_01.Holds :=
  Mine.lawH Mine.call_ok
