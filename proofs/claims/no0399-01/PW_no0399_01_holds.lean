import PyProof.Rows.All
import Wide.All
import OpenK.AllK
import Wide.FinOn
import PySem.Challenge.RW_no0399_01
set_option Elab.async false
set_option linter.unusedVariables false
set_option maxRecDepth 100000
section
open PySem
namespace Mine
set_option backward.match.sparseCases false
set_option genSizeOf false
set_option genInjectivity false
inductive Bt |len |min |max |sorted |isinstance |ord |chr
inductive Ty |range |bytes |list |tuple |dict |str
inductive C where
 |none
 |bool (b:Bool)
 |int (i:Int)
 |str (s:List Nat)
 |byt (b:List Nat)
 |tup (l:List C)
 |lst (l:List C)
 |rng (a b c:Int)
 |dcs (l:List (List Nat × C))
 |dci (l:List (Int × C))
 |ins (c:Nat) (l:List (Nat × C))
 |obj (a:Nat)
 |typ (t:Ty)
 |blt (b:Bt)
inductive V where
 |c (x:C)
 |r (n:Nat)
 |t (l:List V)
inductive O where
 |lst (l:List C)
 |dcs (l:List (List Nat × C))
 |ins (c:Nat) (l:List (Nat × C))
set_option genCtorIdx false
mutual
inductive X where
 |bad
 |con (c:C)
 |var (n:Nat)
 |tup (es:List X)
 |lst (es:List X)
 |bop (a:Bool) (es:List X)
 |neg (e:X)
 |not (e:X)
 |bin (op:Operator) (a b:X)
 |cmp (a:X) (ops:List CmpOp) (es:List X)
 |ite (t a b:X)
 |atr (o:X) (n:Nat)
 |idx (o i:X)
 |sli (o lo hi:X)
 |cal (f:X) (es:List X)
 |met (o:X) (m:Nat) (es:List X)
 |com (e:X) (t:T) (it:X) (cs:List X)
 |dct (ks vs:List X)
inductive T where
 |bad
 |nm (n:Nat)
 |at (o:X) (n:Nat)
 |ix (o i:X)
 |tp (l:List T)
end
set_option genCtorIdx true
inductive S where
 |bad
 |exp (e:X)
 |ret (e:X)
 |asg (t:T) (e:X)
 |mls (n:Nat) (es:List X)
 |mdc (n:Nat)
 |asc (n:Nat) (e:X) (t:T) (it:X) (cs:List X)
 |ite (t:X) (a b:List S)
 |whl (t:X) (b:List S)
 |lop (t:T) (it:X) (b:List S)
 |brk
 |pas
 |try_ (b:List S)
set_option genSizeOf true
set_option genInjectivity true
set_option backward.match.sparseCases true
set_option backward.match.sparseCases false
set_option genSizeOf false
set_option genInjectivity false
set_option genCtorIdx false
noncomputable def BE (l:List Nat):Nat:=l.foldl (fun a c=>a * 256+c) 0
noncomputable def enc (x:Str):Nat:=BE x.cps.toList
noncomputable def FO:Nat→Nat→List Nat→List Nat
 |0,_,acc=>acc
 |f+1,n,acc=>if n=0 then acc else FO f (n / 256) (n % 256::acc)
noncomputable def dec (n:Nat):Str:=⟨(FO 40 n []).toArray⟩
noncomputable def a6 (x:Str):Bool:=Nat.ble x.cps.size 40 && x.cps.toList.all (fun c=>Nat.ble 1 c && Nat.ble c 255) && !(Nat.beq (enc x) 1759314417407232532319) && !(Nat.beq (enc x) 7556196710257515129615821332319) && !(Nat.beq (enc x) 495891539314)
noncomputable def few {α:Type} (l:List α):Bool:=Nat.ble l.length 25
noncomputable def cC:Const→X
 | .none=>.con .none
 | .bool b=>.con (.bool b)
 | .int i=>.con (.int i)
 | .str s=>.con (.str s.cps.toList)
 | .bytes b=>.con (.byt (b.map UInt8.toNat))
 |_=>.bad
noncomputable def one? {α:Type}:List α→Option α
 | [a]=>some a
 |_=>none
noncomputable def s8:Expr→Option (Expr × Str × Pos)
 | .Attribute o m p=>some (o,m,p)
 |_=>none
noncomputable def nE:Expr→Option (Option Expr × Option Expr × Option Expr × Pos)
 | .Slice lo hi st p=>some (lo,hi,st,p)
 |_=>none
noncomputable def FP:Expr→Option (Str × List Expr × List Keyword)
 | .Call (.Name x _) as ks _=>some (x,as,ks)
 |_=>none
noncomputable def FQ:Expr→Bool
 | .Name .. =>true
 |_=>false
noncomputable def s9:Expr→Bool
 | .Set .. =>true
 |_=>false
noncomputable def iW (e:Expr):Bool:=match FP e with
 |some (x,as,ks)=>a6 x || !(as.isEmpty && ks.isEmpty)
 |none=>true
noncomputable def o6 (o:Expr) (ap pos:Pos):Bool:= !FQ o || ap.endLine == pos.line
inductive AK where
 |lst (es:List Expr)
 |dct
 |com
 |tup
 |oth
noncomputable def akD:List (Option Expr)→List Expr→AK
 | [],[]=>.dct
 |_,_=>.oth
noncomputable def ak:Expr→AK
 | .List es _=>.lst es
 | .Dict ks vs _=>akD ks vs
 | .ListComp .. =>.com
 | .Tuple .. =>.tup
 |_=>.oth
noncomputable def gX (b:Bool) (x:X):X:=cond b x .bad
noncomputable def gT' (b:Bool) (t:T):T:=cond b t .bad
noncomputable def gS (b:Bool) (s:S):S:=cond b s .bad
noncomputable def nbX:X→Bool
 | .bad=>false
 |_=>true
noncomputable def nbT:T→Bool
 | .bad=>false
 |_=>true
noncomputable def nmT:T→Option Nat
 | .nm n=>some n
 |_=>none
noncomputable def tpT:T→Option (List T)
 | .tp l=>some l
 |_=>none
noncomputable def nkL:Option NameKind→Bool
 |some .local=>true
 |some .cell=>true
 |_=>false
noncomputable def nkF:Option NameKind→Bool
 |some .cell=>true
 |some .free=>true
 |_=>false
noncomputable def nkG:Option NameKind→Bool
 |some .globalImplicit=>true
 |_=>false
noncomputable abbrev Kn:=Str→Option NameKind
noncomputable def cN (G:Nat→Option C) (k:Kn) (x:Str):X:=gX (a6 x) (cond (nkL (k x) || nkF (k x)) (.var (enc x)) (cond (nkG (k x)) ((G (enc x)).elim .bad .con) .bad))
noncomputable def cTn (k:Kn) (x:Str):T:=gT' (a6 x && nkL (k x)) (.nm (enc x))
noncomputable def cT1 (cx:Expr→X) (k:Kn) (e:Expr):T:=match e with
 | .Name x _=>cTn k x
 | .Attribute o a _=>gT' (a6 a) (.at (cx o) (enc a))
 | .Subscript o i _=>.ix (cx o) (cx i)
 |_=>.bad
noncomputable def cT0 (cx:Expr→X) (k:Kn) (e:Expr):T:=match e with
 | .Tuple es _ _=>gT' ((es.map (cT1 cx k)).all nbT) (.tp (es.map (cT1 cx k)))
 |e=>cT1 cx k e
noncomputable def eE (t:T):List Nat:=match tpT t with
 |some l=>l.filterMap nmT
 |none=>(nmT t).toList
noncomputable def mem (n:Nat):List Nat→Bool
 | []=>false
 |m::l=>match Nat.beq m n with
  |true=>true
  |false=>mem n l
noncomputable def dot0:Nat:=11824
noncomputable def MB:ScopeKind→Bool
 | .function=>true
 |_=>false
noncomputable def MC (k:Kn) (sc:Scope) (t:T) (p:Str × NameKind):Bool:=match p.2 with
  | .local=>nkL (sc.names.lookup p.1) && !nkF (sc.names.lookup p.1) && a6 p.1 && (Nat.beq (enc p.1) dot0 || mem (enc p.1) (eE t))
  | .cell=>false
  | .free=>a6 p.1 && nkF (k p.1)
  |_=>true
noncomputable def eK (k:Kn) (sc:Scope) (t:T):Bool:=MB sc.kind && sc.names.all (MC k sc t)
noncomputable def kS (sc:Scope):Kn:=fun x=>sc.names.lookup x
noncomputable def oX (f:Expr→X):Option Expr→X
 |some e=>f e
 |none=>.con .none
noncomputable def oB (f:Expr→X):Option Expr→X
 |some e=>f e
 |none=>.bad
noncomputable def unX:UnaryOp→X→X
 | .USub,e=>.neg e
 | .Not,e=>.not e
 |_,_=>.bad
noncomputable def tA:BoolOp→Bool
 | .And=>true
 | .Or=>false
noncomputable def cG (cx:Kn→Expr→X) (k:Kn) (e:Expr) (sc:Scope) (g:Comprehension):X:=match g with
 | ⟨t,it,cs,a⟩=>gX (decide (a=0) && eK k sc (cT0 (cx (kS sc)) (kS sc) t)) (.com (cx (kS sc) e) (cT0 (cx (kS sc)) (kS sc) t) (cx k it) (cs.map (cx (kS sc))))
noncomputable def cX0 (G:Nat→Option C) (cx:Kn→Expr→X) (k:Kn) (e:Expr):X:=match e with
  | .Constant c _ _=>cC c
  | .Name x _=>cN G k x
  | .BoolOp op vs _=>.bop (tA op) (vs.map (cx k))
  | .BinOp a op b _=>.bin op (cx k a) (cx k b)
  | .UnaryOp op e _=>unX op (cx k e)
  | .IfExp t a b _=>.ite (cx k t) (cx k a) (cx k b)
  | .Compare a ops cs _=>gX (cs.all fun e=> !s9 e) (.cmp (cx k a) ops (cs.map (cx k)))
  | .Call f as ks pos=>gX (ks.isEmpty && (as.map (cx k)).all nbX) (match s8 f with
   |some (o,m,ap)=>gX (iW o && few as && o6 o ap pos && a6 m) (.met (cx k o) (enc m) (as.map (cx k)))
   |none=>.cal (cx k f) (as.map (cx k)))
  | .Attribute o a _=>gX (iW o && a6 a) (.atr (cx k o) (enc a))
  | .Subscript o i _=>match nE i with
   |some (lo,hi,st,_)=>gX st.isNone (.sli (cx k o) (oX (cx k) lo) (oX (cx k) hi))
   |none=>.idx (cx k o) (cx k i)
  | .Tuple es _ _=>gX (few es) (.tup (es.map (cx k)))
  | .List es _=>gX (few es) (.lst (es.map (cx k)))
  | .ListComp e gs sc _=>(one? gs).elim .bad (cG cx k e sc)
  | .Dict ks vs _=>.dct (ks.map (oB (cx k))) (vs.map (cx k))
  |_=>.bad
noncomputable def cX (G:Nat→Option C) (n:Nat):Kn→Expr→X:=Nat.rec (fun _ _=>.bad) (fun _ f=>cX0 G f) n
noncomputable def EN (m:Nat):X→S
 | .com e t it cs=>.asc m e t it cs
 |_=>.bad
noncomputable def cAn (cx:Expr→X) (m:Nat) (e:Expr):AK→S
 | .lst es=>gS (few es) (.mls m (es.map cx))
 | .dct=>.mdc m
 | .com=>EN m (cx e)
 |_=>.asg (.nm m) (cx e)
noncomputable def plA:AK→Bool
 | .com=>false
 | .tup=>false
 |_=>true
noncomputable def cAs (cx:Expr→X) (t:T) (e:Expr):S:=match nmT t with
 |some m=>cAn cx m e (ak e)
 |none=>gS (nbT t && ((tpT t).isNone || plA (ak e))) (.asg t (cx e))
noncomputable def o7:AK→Bool
 | .com=>true
 |_=>false
noncomputable def cS0 (G:Nat→Option C) (k:Kn) (cs:Stmt→S) (s:Stmt):S:=match s with
  | .Expr e _=>gS (!o7 (ak e) && nbX (cX G 20 k e)) (.exp (cX G 20 k e))
  | .Return v _=>.ret (oX (cX G 20 k) v)
  | .Assign ts e _=>(one? ts).elim .bad fun t=>cAs (cX G 20 k) (cT0 (cX G 20 k) k t) e
  | .If t a b _=>.ite (cX G 20 k t) (a.map cs) (b.map cs)
  | .While t b el _=>gS el.isEmpty (.whl (cX G 20 k t) (b.map cs))
  | .For t it b el _=>gS el.isEmpty (.lop (cT0 (cX G 20 k) k t) (cX G 20 k it) (b.map cs))
  | .Break _=>.brk
  | .Pass _=>.pas
  | .Try b _ el fi _=>gS (el.isEmpty && fi.isEmpty) (.try_ (b.map cs))
  |_=>.bad
noncomputable def cS (G:Nat→Option C) (k:Kn) (n:Nat):Stmt→S:=Nat.rec (fun _=>.bad) (fun _ f=>cS0 G k f) n
theorem nn {α:Type} {a:α} {p:Prop} (h:none=some a):p:=nomatch h
noncomputable def a1 (f:C→Option C):List C→Option C
 | [a]=>f a
 |_=>none
noncomputable def a2 (f:C→C→Option C):List C→Option C
 | [a,b]=>f a b
 |_=>none
noncomputable def asI:C→Option Int
 | .int i=>some i
 |_=>none
noncomputable def asB:C→Option (List Nat)
 | .byt l=>some l
 |_=>none
noncomputable def asS:C→Option (List Nat)
 | .str l=>some l
 |_=>none
noncomputable def asL:C→Option (List C)
 | .lst l=>some l
 |_=>none
noncomputable def asD:C→Option (List (List Nat × C))
 | .dcs l=>some l
 |_=>none
noncomputable def asN:C→Option Nat
 | .ins c _=>some c
 |_=>none
noncomputable def asO:C→Option Nat
 | .obj a=>some a
 |_=>none
noncomputable def asT:C→Option (List C)
 | .tup l=>some l
 |_=>none
theorem nF {α:Type} {l:List α} {a:α} (h:one? l=some a):l=[a]:=by
 rcases l with _ | ⟨b,_ |_⟩
 ·exact nn h
 ·exact Option.some.inj h ▸ rfl
 ·exact nn h
theorem FS {f:C→Option C} {as:List C} {x:C} (h:a1 f as=some x):∃ a,as=[a]∧f a=some x:=by
 rcases as with _ | ⟨b,_ |_⟩
 ·exact nn h
 ·exact ⟨b,rfl,h⟩
 ·exact nn h
theorem FT {f:C→C→Option C} {as:List C} {x:C} (h:a2 f as=some x):∃ a b,as=[a,b]∧f a b=some x:=by
 rcases as with _ | ⟨a,_ | ⟨b,_ |_⟩⟩
 ·exact nn h
 ·exact nn h
 ·exact ⟨a,b,rfl,h⟩
 ·exact nn h
theorem gA {c:C} {i:Int} (h:asI c=some i):c= .int i:=by rcases c with _ |_ <;> first |exact nn h |exact congrArg _ (Option.some.inj h)
theorem nG {c:C} {i:List Nat} (h:asB c=some i):c= .byt i:=by rcases c with _ |_ <;> first |exact nn h |exact congrArg _ (Option.some.inj h)
theorem gB {c:C} {i:List Nat} (h:asS c=some i):c= .str i:=by rcases c with _ |_ <;> first |exact nn h |exact congrArg _ (Option.some.inj h)
theorem nH {c:C} {i:List C} (h:asL c=some i):c= .lst i:=by rcases c with _ |_ <;> first |exact nn h |exact congrArg _ (Option.some.inj h)
theorem BF {c:C} {i:List (List Nat × C)} (h:asD c=some i):c= .dcs i:=by rcases c with _ |_ <;> first |exact nn h |exact congrArg _ (Option.some.inj h)
theorem nI {c:C} {i:List C} (h:asT c=some i):c= .tup i:=by rcases c with _ |_ <;> first |exact nn h |exact congrArg _ (Option.some.inj h)
theorem BG {c:C} {i:Nat} (h:asO c=some i):c= .obj i:=by rcases c with _ |_ <;> first |exact nn h |exact congrArg _ (Option.some.inj h)
theorem BH {c:C} {i:Nat} (h:asN c=some i):∃ l,c= .ins i l:=by rcases c with _ |_ <;> first |exact nn h |exact ⟨_,congrArg (C.ins · _) (Option.some.inj h)⟩
theorem bM {β α:Type} {o:Option β} {g:β→Option α} {x:α} (h:o.bind g=some x):∃ i,o=some i∧g i=some x:=by
 rcases o with _ |i
 ·exact nn h
 ·exact ⟨i,rfl,h⟩
section
variable {c:C} {α:Type} {x:α}
theorem bI {g:Int→Option α} (h:(asI c).bind g=some x):∃ i,c= .int i∧g i=some x:=let ⟨i,e,h⟩:=bM h;⟨i,gA e,h⟩
theorem bB {g:List Nat→Option α} (h:(asB c).bind g=some x):∃ i,c= .byt i∧g i=some x:=let ⟨i,e,h⟩:=bM h;⟨i,nG e,h⟩
theorem bS {g:List Nat→Option α} (h:(asS c).bind g=some x):∃ i,c= .str i∧g i=some x:=let ⟨i,e,h⟩:=bM h;⟨i,gB e,h⟩
theorem bL {g:List C→Option α} (h:(asL c).bind g=some x):∃ i,c= .lst i∧g i=some x:=let ⟨i,e,h⟩:=bM h;⟨i,nH e,h⟩
theorem bD {g:List (List Nat × C)→Option α} (h:(asD c).bind g=some x):∃ i,c= .dcs i∧g i=some x:=let ⟨i,e,h⟩:=bM h;⟨i,BF e,h⟩
theorem bT {g:List C→Option α} (h:(asT c).bind g=some x):∃ i,c= .tup i∧g i=some x:=let ⟨i,e,h⟩:=bM h;⟨i,nI e,h⟩
theorem b_O {g:Nat→Option α} (h:(asO c).bind g=some x):∃ i,c= .obj i∧g i=some x:=let ⟨i,e,h⟩:=bM h;⟨i,BG e,h⟩
theorem bN {g:Nat→Option α} (h:(asN c).bind g=some x):∃ i l,c= .ins i l∧g i=some x:=let ⟨i,e,h⟩:=bM h;let ⟨l,e⟩:=BH e;⟨i,l,e,h⟩
theorem bU {β:Type} {l:List β} {g:β→Option α} (h:(one? l).bind g=some x):∃ i,l=[i]∧g i=some x:=let ⟨i,e,h⟩:=bM h;⟨i,nF e,h⟩
variable {p:Prop} [Decidable p]
theorem ifO {o:Option α} (h:(if p then o else none)=some x):p∧o=some x:=by
 by_cases q:p
 ·exact ⟨q,(if_pos q).symm.trans h⟩
 ·exact nn ((if_neg q).symm.trans h)
theorem ifN {o:Option α} (h:(if p then none else o)=some x):¬p∧o=some x:=by
 by_cases q:p
 ·exact nn ((if_pos q).symm.trans h)
 ·exact ⟨q,(if_neg q).symm.trans h⟩
theorem ifS {a:α} (h:(if p then some a else none)=some x):p∧a=x:=let ⟨q,h⟩:=ifO h;⟨q,Option.some.inj h⟩
end
noncomputable def lk {α:Type}:List (Nat × α)→Nat→Option α
 | [],_=>none
 |p::l,n=>match Nat.beq p.1 n with
  |true=>some p.2
  |false=>lk l n
noncomputable def put {α:Type} (n:Nat) (v:α):List (Nat × α)→List (Nat × α)
 | []=>[(n,v)]
 |p::l=>match Nat.beq p.1 n with
  |true=>(n,v)::l
  |false=>p::put n v l
noncomputable def lkS {α:Type}:List (List Nat × α)→List Nat→Option α
 | [],_=>none
 |p::l,n=>cond (p.1 == n) (some p.2) (lkS l n)
noncomputable def vE {α:Type} (n:List Nat) (v:α):List (List Nat × α)→List (List Nat × α)
 | []=>[(n,v)]
 |p::l=>match p.1 == n with
  |true=>(p.1,v)::l
  |false=>p::vE n v l
noncomputable def lkI {α:Type}:List (Int × α)→Int→Option α
 | [],_=>none
 |p::l,n=>cond (p.1 == n) (some p.2) (lkI l n)
noncomputable def lim:Nat:=1000000
noncomputable def mE:List (List Nat)→Bool
 | []=>true
 |x::l=> !l.contains x && mE l
noncomputable def okL {α:Type} (l:List α):Bool:=Nat.ble l.length lim
noncomputable def okI (i:Int):Bool:=Nat.ble i.natAbs lim
noncomputable def face:O→C
 | .lst l=>.lst l
 | .dcs l=>.dcs l
 | .ins c l=>.ins c l
noncomputable def view (H:List O):V→Option C
 | .c x=>some x
 | .r n=>(H[n]?).map face
 | .t _=>none
noncomputable def eO:List V→Option (List C)
 | []=>some []
 | .c x::l=>(eO l).map (x::·)
 |_::_=>none
noncomputable def noT:List V→Bool
 | []=>true
 | .t _::_=>false
 |_::l=>noT l
noncomputable def tB (l:List V):Option V:=match eO l with
 |some cs=>some (.c (.tup cs))
 |none=>match noT l with
  |true=>some (.t l)
  |false=>none
noncomputable def ceqs (f:C→C→Bool):List C→List C→Bool
 | [],[]=>true
 |a::l,b::m=>f a b && ceqs f l m
 |_,_=>false
noncomputable def FU:C→Bool
 | .none=>true
 |_=>false
theorem o8 {c:C} (h:FU c=true):c= .none:=by rcases c with _ |_ <;> first |exact Bool.noConfusion h |exact rfl
noncomputable def isJ {α:Type} [DecidableEq α] (a:α) (o:Option α):Bool:=match o with
 |some b=>decide (a=b)
 |none=>false
theorem nJ {α:Type} [DecidableEq α] {a:α} {o:Option α} (h:isJ a o=true):o=some a:=by
 rcases o with _ |b
 ·exact Bool.noConfusion h
 ·exact congrArg some (of_decide_eq_true h).symm
theorem o9 {α:Type} [DecidableEq α] {a:α}:isJ a (some a)=true:=decide_eq_true rfl
noncomputable def ceq:Nat→C→C→Bool
 |0,_,_=>false
 |n+1,a,b=>match a with
  | .none=>FU b
  | .bool x=>match b with
   | .bool y=>x == y
   |_=>false
  | .int x=>isJ x (asI b)
  | .str x=>isJ x (asS b)
  | .byt x=>isJ x (asB b)
  | .tup x=>(asT b).any (ceqs (ceq n) x)
  | .lst x=>(asL b).any (ceqs (ceq n) x)
  |_=>false
noncomputable def wR (a b:C):Option Bool:=match a with
 | .int x=>(asI b).bind fun y=>some (x == y)
 | .str x=>(asS b).bind fun y=>some (x == y)
 | .byt x=>(asB b).bind fun y=>some (x == y)
 | .tup x=>(asT b).bind fun y=>cond (ceqs (ceq 50) x y) (some true) none
 | .lst x=>(asL b).bind fun y=>cond (ceqs (ceq 50) x y) (some true) (cond (Nat.beq x.length y.length) none (some false))
 |_=>none
noncomputable def rJ {β:Type} (f:C→Option β):List C→Option (List β)
 | []=>some []
 |c::l=>(f c).bind fun i=>(rJ f l).bind fun l=>some (i::l)
theorem fT {β:Type} {f:C→Option β} {g:β→C} (k:∀ {c i},f c=some i→c=g i):∀ {l:List C} {is:List β},rJ f l=some is→l=is.map g
 | [],is,h=>Option.some.inj h ▸ rfl
 |c::l,is,h=>by
  obtain ⟨i,e,h⟩:=bM h
  obtain ⟨m,e',h⟩:=bM h
  rw [k e,fT k e',← Option.some.inj h];rfl
theorem pA {β:Type} {f:C→Option β} {g:β→C} (k:∀ i,f (g i)=some i):∀ is:List β,rJ f (is.map g)=some is
 | []=>rfl
 |i::is=>by
  refine (congrArg (Option.bind · _) (k i)).trans ?_
  exact congrArg (Option.bind · _) (pA k is)
noncomputable def eF:List C→Option (List Int):=rJ asI
noncomputable def eY:List C→Option (List (List Nat)):=rJ asS
noncomputable def j4:List C→Option (List (List Nat)):=rJ asB
noncomputable def inT (a:C) (l:List C):Option Bool:=match a with
 | .int i=>(eF l).bind fun l=>some (l.contains i)
 | .str s=>(eY l).bind fun l=>some (l.contains s)
 |_=>none
noncomputable def BI (a b:C):Option Bool:=match b with
 | .byt l=>(asI a).bind fun i=>if 0≤i∧i < 256 then some (l.contains i.toNat) else none
 | .tup l=>inT a l
 | .lst l=>(asS a).bind fun s=>(eY l).bind fun l=>some (l.contains s)
 | .dci l=>(asI a).bind fun i=>some (lkI l i).isSome
 | .dcs l=>(asS a).bind fun s=>some (lkS l s).isSome
 |_=>none
noncomputable def isNone:V→Option Bool
 | .c .none=>some true
 | .c _=>some false
 | .r _=>some false
 | .t _=>none
noncomputable def wT:V→Bool
 | .c .none=>true
 |_=>false
noncomputable def MD:CmpOp→Option Bool
 | .Is=>some true
 | .IsNot=>some false
 |_=>none
noncomputable def ltI (f:Int→Int→Bool) (a b:C):Option Bool:=(asI a).bind fun a=>(asI b).bind fun b=>some (f a b)
noncomputable def BJ (op:CmpOp) (a b:C):Option Bool:=match op with
 | .Eq=>wR a b
 | .NotEq=>(wR a b).map (!·)
 | .In=>BI a b
 | .NotIn=>(BI a b).map (!·)
 | .Lt=>ltI (fun a b=>decide (a < b)) a b
 | .LtE=>ltI (fun a b=>decide (a≤b)) a b
 | .Gt=>ltI (fun a b=>decide (b < a)) a b
 | .GtE=>ltI (fun a b=>decide (b≤a)) a b
 |_=>none
noncomputable def jS (H:List O) (op:CmpOp) (a b:V):Option Bool:=match MD op with
 |some p=>cond (wT b) ((isNone a).map (· == p)) none
 |none=>(view H a).bind fun x=>(view H b).bind fun y=>BJ op x y
noncomputable def big:Nat:=18446744073709551616
noncomputable def g9 (i:Int):Bool:=Nat.blt i.natAbs big
noncomputable def i2 (f:Int→Int→Option C) (a b:C):Option C:=(asI a).bind fun a=>(asI b).bind fun b=>f a b
theorem FV {f:Int→Int→Option C} {a b x:C} (h:i2 f a b=some x):∃ i j,a= .int i∧b= .int j∧f i j=some x:=let ⟨i,e,h⟩:=bI h;let ⟨j,e',h⟩:=bI h;⟨i,j,e,e',h⟩
noncomputable def ME (a b:C):Option C:=match a with
 | .int a=>(asI b).bind fun b=>some (.int (a+b))
 | .byt a=>(asB b).bind fun b=>if a.length+b.length≤lim then some (.byt (a++b)) else none
 | .str a=>(asS b).bind fun b=>if a.length+b.length≤lim then some (.str (a++b)) else none
 | .tup a=>(asT b).bind fun b=>if a.length+b.length≤lim then some (.tup (a++b)) else none
 | .lst a=>(asL b).bind fun b=>if a.length+b.length≤lim then some (.lst (a++b)) else none
 |_=>none
noncomputable def MF (a b:C):Option C:=match a with
 | .int a=>(asI b).bind fun b=>if (g9 a || g9 b)=true then some (.int (a * b)) else none
 | .lst a=>(asI b).bind fun n=>if 0≤n∧n≤4∧a.length≤4 then some (.lst (List.replicate n.toNat a).flatten) else none
 |_=>none
noncomputable def vF (op:Operator) (a b:C):Option C:=match op with
 | .Add=>ME a b
 | .Sub=>i2 (fun a b=>some (.int (a - b))) a b
 | .Mult=>MF a b
 | .FloorDiv=>i2 (fun a b=>if b=0 then none else if Nat.blt b.natAbs 1073741824=true then some (.int (a.fdiv b)) else none) a b
 | .Mod=>i2 (fun a b=>if b=0 then none else some (.int (a.fmod b))) a b
 | .LShift=>i2 (fun a b=>if (g9 a && decide (0≤b∧b≤64))=true then some (.int (a * 2 ^ b.toNat)) else none) a b
 | .RShift=>i2 (fun a b=>if 0≤b∧b≤64 then some (.int (a.fdiv (2 ^ b.toNat))) else none) a b
 | .BitAnd=>i2 (fun a b=>if 0≤a∧0≤b then some (.int (Nat.land a.toNat b.toNat)) else none) a b
 |_=>none
noncomputable def rK (H:List O) (op:Operator) (a b:V):Option V:=(view H a).bind fun a=>(view H b).bind fun b=>(vF op a b).map .c
noncomputable def ix? (i:Int) (n:Nat):Option Nat:=
 if 0≤i then (if i < n then some i.toNat else none) else (if 0≤i+n then some (i+n).toNat else none)
noncomputable def ixS (i:Int) (n:Nat):Option Nat:=if 0≤i∧i≤1000000∧i < n then some i.toNat else none
noncomputable def clip (n:Nat) (i:Int):Nat:=if i < 0 then (i+n).toNat else min i.toNat n
noncomputable def BK (d n:Nat):C→Option Nat
 | .none=>some d
 | .int i=>some (clip n i)
 |_=>none
noncomputable def cut {α:Type} (l:List α) (lo hi:C):Option (List α):=(BK 0 l.length lo).bind fun a=>(BK l.length l.length hi).bind fun b=>some ((l.drop a).take (b - a))
noncomputable def at? {α:Type} (l:List α) (i:Int):Option α:=if okL l then (ix? i l.length).bind fun j=>l[j]? else none
noncomputable def iX (o i:C):Option C:=match o with
 | .byt l=>(asI i).bind fun i=>(at? l i).bind fun n=>some (.int n)
 | .tup l=>(asI i).bind (at? l)
 | .lst l=>(asI i).bind (at? l)
 | .dcs l=>(asS i).bind (lkS l)
 | .dci l=>(asI i).bind (lkI l)
 |_=>none
noncomputable def j5 (o lo hi:C):Option C:=match o with
 | .byt l=>if okL l then (cut l lo hi).bind fun l=>some (.byt l) else none
 | .tup l=>if FU lo then (asI hi).bind fun i=>if i= -1∧okL l=true∧l≠[] then some (.tup (l.take (l.length - 1))) else none else none
 | .lst l=>if okL l then (cut l lo hi).bind fun l=>some (.lst l) else none
 |_=>none
noncomputable def l6 (a:Int) (c:Int):Nat→List C
 |0=>[]
 |n+1=>.int a::l6 (a+c) c n
noncomputable def nK (a b c:Int):Nat:=
 if 0 < c then (if a < b then ((b - a - 1) / c+1).toNat else 0) else (if b < a then ((a - b - 1) / (-c)+1).toNat else 0)
noncomputable def eP:C→Option (List C)
 | .lst l=>if okL l then some l else none
 | .tup l=>if okL l then some l else none
 | .byt l=>if okL l then some (l.map fun n=>.int (n:Nat)) else none
 | .str l=>if okL l then some (l.map fun n=>.str [n]) else none
 | .rng a b c=>some (l6 a c (nK a b c))
 |_=>none
noncomputable def MG:O→Option (List C)
 | .dcs []=>some []
 |_=>none
noncomputable def rL (H:List O):V→Option (List C)
 | .c x=>eP x
 | .r n=>(H[n]?).bind MG
 | .t _=>none
noncomputable def wU (l:List Int):Bool:=l.all fun i=>decide (0≤i∧i < 256)
noncomputable def two? {α:Type}:List α→Option (α × α)
 | [a,b]=>some (a,b)
 |_=>none
theorem BL {α:Type} {l:List α} {p:α × α} (h:two? l=some p):l=[p.1,p.2]:=by
 rcases l with _ | ⟨a,_ | ⟨b,_ |_⟩⟩
 ·exact nn h
 ·exact nn h
 ·exact Option.some.inj h ▸ rfl
 ·exact nn h
noncomputable def wV {β:Type} (f:C→Option β) (c:C):Option (β × C):=(asT c).bind fun l=>(two? l).bind fun p=>(f p.1).bind fun k=>some (k,p.2)
theorem mF {β:Type} {f:C→Option β} {g:β→C} (k:∀ {c i},f c=some i→c=g i) {c:C} {p:β × C} (h:wV f c=some p):c= .tup [g p.1,p.2]:=by
 obtain ⟨l,e1,h⟩:=bT h
 obtain ⟨q,e,h⟩:=bM h
 obtain ⟨i,e',h⟩:=bM h
 rw [e1,BL e,k e',← Option.some.inj h]
noncomputable def rM (l:List C):Option (List (List Nat × C)):=match l with
 | []=>some []
 |c::r=>if r.isEmpty then (wV asS c).bind fun p=>some [p] else none
noncomputable def rN:List C→Option (List (Int × C)):=rJ (wV asI)
noncomputable def distinct:List Int→Bool
 | []=>true
 |i::l=> !l.contains i && distinct l
noncomputable def j6:Int→List Int→Int
 |a,[]=>a
 |a,b::l=>j6 (if a < b then b else a) l
noncomputable def isC (c d:Nat):Bool:=(Nat.beq c 896 || Nat.beq c 929 || Nat.beq c 966) && (Nat.beq d 929 || Nat.beq d 966)
noncomputable def JA:C→Option C
 | .byt l=>if okL l then some (.int l.length) else none
 | .str l=>if okL l then some (.int l.length) else none
 | .lst l=>if okL l then some (.int l.length) else none
 | .tup l=>if okL l then some (.int l.length) else none
 |_=>none
noncomputable def JB:List Int→Option C
 | []=>none
 |a::l=>some (.int (j6 a l))
noncomputable def MH:List C→Option C
 | [c]=>(asL c).bind fun l=>(eF l).bind JB
 | [a,b]=>(asI a).bind fun a=>(asI b).bind fun b=>some (.int (if a < b then b else a))
 |_=>none
noncomputable def EO (c:C):Option C:=(asD c).bind fun l=>match l with
 | []=>some (.lst [])
 | [p]=>some (.lst [.str p.1])
 |_=>none
noncomputable def MI (a b:C):Option C:=(asN a).bind fun c=>(asO b).bind fun d=>if isC c d then some (.bool (Nat.beq c d)) else none
noncomputable def iY (b:Bt):List C→Option C:=match b with
 | .len=>a1 JA
 | .min=>a2 fun a b=>(asI a).bind fun a=>(asI b).bind fun b=>some (.int (if b < a then b else a))
 | .max=>MH
 | .sorted=>a1 EO
 | .isinstance=>a2 MI
 | .ord=>a1 fun c=>(asS c).bind fun l=>(one? l).bind fun n=>some (.int n)
 | .chr=>a1 fun c=>(asI c).bind fun i=>if 0≤i∧i < 55296 then some (.str [i.toNat]) else none
noncomputable def MJ:List C→Option C
 | [b]=>(asI b).bind fun b=>if okI b then some (.rng 0 b 1) else none
 | [a,b]=>(asI a).bind fun a=>(asI b).bind fun b=>if okI a && okI b then some (.rng a b 1) else none
 | [a,b,c]=>(asI a).bind fun a=>(asI b).bind fun b=>(asI c).bind fun c=>if c=0 then none else if okI a && okI b && okI c then some (.rng a b c) else none
 |_=>none
noncomputable def MK:C→Option C
 | .byt l=>some (.byt l)
 | .lst l=>(eF l).bind fun is=>if wU is && Nat.ble is.length lim then some (.byt (is.map Int.toNat)) else none
 |_=>none
noncomputable def ML:C→Option C
 | .lst l=>if okL l then some (.lst l) else none
 | .tup l=>if okL l then some (.lst l) else none
 |_=>none
noncomputable def MM:C→Option C
 | .lst l=>if okL l then some (.tup l) else none
 | .tup l=>if okL l then some (.tup l) else none
 |_=>none
noncomputable def MN:C→Option C
 | .tup l=>(rM l).bind fun ps=>some (.dcs ps)
 | .lst l=>(rN l).bind fun ps=>if distinct (ps.map (·.1)) && Nat.ble ps.length 200 && ps.all (fun p=>decide (0≤p.1∧p.1 < 1000000)) then some (.dci ps) else none
 |_=>none
noncomputable def iZ (t:Ty):List C→Option C:=match t with
 | .range=>MJ
 | .bytes=>a1 MK
 | .list=>a1 ML
 | .tuple=>a1 MM
 | .dict=>a1 MN
 | .str=>a1 fun c=>(asI c).bind fun i=>if 0≤i∧i < 10 then some (.str [48+i.toNat]) else none
noncomputable def cZ (c:Nat):List Nat→Nat→Option Nat
 | [],_=>none
 |x::l,i=>match Nat.beq x c with
  |true=>some i
  |false=>cZ c l (i+1)
noncomputable def fW (l:List Nat) (c:Nat) (lo hi:Nat):Int:=
 match cZ c ((l.take hi).drop lo) lo with
 |some i=>i
 |none=> -1
noncomputable def j7 (cs l:List Nat):List Nat:=(l.reverse.dropWhile cs.contains).reverse
noncomputable def d9 {α:Type} (sep:List α):List (List α)→List α
 | []=>[]
 | [x]=>x
 |x::l=>x++sep++d9 sep l
noncomputable def bH:List Nat→List Nat→List (List Nat)
 | [],acc=>[acc.reverse]
 |13::10::l,acc=>acc.reverse::bH l []
 |x::l,acc=>bH l (x::acc)
noncomputable def cQ:List (List Nat)→Nat
 | []=>0
 |x::l=>x.length+cQ l
noncomputable abbrev cB:Nat:=1718185572
noncomputable abbrev cT:Nat:=125840200460656
noncomputable abbrev dE:Nat:=495874894192
noncomputable abbrev dG:Nat:=495807392116
noncomputable abbrev b4:Nat:=1785686382
noncomputable abbrev j8:Nat:=6776180
noncomputable abbrev c6:Nat:=107135549927012
noncomputable abbrev d5:Nat:=111568023285348
set_option genCtorIdx true
inductive Bm |bfind |brstrip |bstrip |bsplit |bjoin |sjoin |sfind |dget |lappend |lextend
set_option genCtorIdx false
inductive Tg where
 |fn (a:Nat)
 |bm (b:Bm)
noncomputable def dD (o:C) (m:Nat):Option Bm:=match o with
 | .byt _=>match Nat.beq m cB with
  |true=>some .bfind
  |false=>match Nat.beq m cT with
  |true=>some .brstrip
  |false=>match Nat.beq m dE with
  |true=>some .bstrip
  |false=>match Nat.beq m dG with
  |true=>some .bsplit
  |false=>match Nat.beq m b4 with
  |true=>some .bjoin
  |false=>none
 | .str _=>match Nat.beq m b4 with
  |true=>some .sjoin
  |false=>match Nat.beq m cB with
  |true=>some .sfind
  |false=>none
 | .dcs _=>match Nat.beq m j8 with
  |true=>some .dget
  |false=>none
 | .lst _=>match Nat.beq m c6 with
  |true=>some .lappend
  |false=>match Nat.beq m d5 with
  |true=>some .lextend
  |false=>none
 |_=>none
noncomputable def as1 (c:C):Option Nat:=(asB c).bind one?
theorem b1 {c:C} {α:Type} {g:Nat→Option α} {x:α} (h:(as1 c).bind g=some x):∃ n,c= .byt [n]∧g n=some x:=by
 obtain ⟨n,hn,h'⟩:=bM h
 obtain ⟨l,e,hl⟩:=bB hn
 exact ⟨n,nF hl ▸ e,h'⟩
noncomputable def JC (l:List Nat):List C→Option C
 | [c]=>(as1 c).bind fun c=>some (.int (fW l c 0 l.length))
 | [c,a]=>(as1 c).bind fun c=>(asI a).bind fun a=>some (.int (fW l c (clip l.length a) l.length))
 | [c,a,b]=>(as1 c).bind fun c=>(asI a).bind fun a=>(asI b).bind fun b=>some (.int (fW l c (clip l.length a) (clip l.length b)))
 |_=>none
noncomputable def FW:C→Bool
 | .str _=>true
 | .none=>true
 | .int _=>true
 |_=>false
noncomputable def hG (b:Bm) (o:C) (as:List C):Option C:=match b with
 | .bfind=>(asB o).bind fun l=>if okL l=true then JC l as else none
 | .brstrip=>(asB o).bind fun l=>if okL l=true then a1 (fun c=>(asB c).bind fun cs=>some (.byt (j7 cs l))) as else none
 | .bstrip=>(asB o).bind fun l=>if okL l=true then a1 (fun c=>(asB c).bind fun cs=>some (.byt (j7 cs (l.dropWhile cs.contains)))) as else none
 | .bsplit=>(asB o).bind fun l=>if okL l=true then a1 (fun c=>(asB c).bind fun s=>if s=[13,10] then some (.lst ((bH l []).map .byt)) else none) as else none
 | .bjoin=>(asB o).bind fun l=>a1 (fun c=>(asL c).bind fun bs=>(j4 bs).bind fun bs=>if cQ bs+l.length * bs.length≤lim then some (.byt (d9 l bs)) else none) as
 | .sjoin=>(asS o).bind fun l=>a1 (fun c=>(asL c).bind fun bs=>(eY bs).bind fun bs=>if cQ bs+l.length * bs.length≤lim then some (.str (d9 l bs)) else none) as
 | .sfind=>(asS o).bind fun l=>if okL l=true then a1 (fun c=>(asS c).bind fun s=>(one? s).bind fun c=>some (.int (fW l c 0 l.length))) as else none
 | .dget=>(asD o).bind fun l=>a2 (fun k d=>(asS k).bind fun k=>if FW d=true then some ((lkS l k).getD d) else none) as
 | .lappend=>none
 | .lextend=>none
structure FDef where
 ps:List Nat
 ds:List C
 body:List S
set_option genCtorIdx true
set_option genInjectivity true
inductive CDef where
 |rcd (ps:List Nat) (ds:List C)
 |mtb (init:Nat) (fl:List Nat)
set_option genCtorIdx false
set_option genInjectivity false
noncomputable def CDef.fl:CDef→List Nat
 | .rcd ps _=>ps
 | .mtb _ fl=>fl
structure Tb where
 fn:Nat→Option FDef
 cl:Nat→Option CDef
 me:Nat→Nat→Option Nat
noncomputable def eL {α:Type} (ps:List Nat) (ds:List α) (as:List α):Option (List (Nat × α)):=
 match Nat.ble as.length ps.length && Nat.ble ps.length (as.length+ds.length) with
 |true=>some (ps.zip (as++ds.drop (as.length+ds.length - ps.length)))
 |false=>none
inductive Fl |nx |bk |rt (v:V)
structure Fm where
 d:Nat
 vs:List (Nat × V)
noncomputable def back (n0:Nat) (H:List O):V→Option V
 | .c x=>some (.c x)
 | .r n=>match Nat.blt n n0 with
  |true=>some (.r n)
  |false=>(view H (.r n)).map .c
 | .t l=>match go l with
  |some cs=>some (.c (.tup cs))
  |none=>none
where
 go:List V→Option (List C)
  | []=>some []
  |v::l=>match v with
   | .c x=>(go l).map (x::·)
   | .r n=>match Nat.blt n n0 with
    |true=>none
    |false=>match view H (.r n) with
     |some x=>(go l).map (x::·)
     |none=>none
   | .t _=>none
noncomputable def oo {α:Type} (o:Option α) (k:α→Prop):Prop:=match o with
 |some a=>k a
 |none=>False
noncomputable def kB (b:Bool) (p:Prop):Prop:=match b with
 |true=>p
 |false=>False
noncomputable def kC (v:V) (k:C→Prop):Prop:=match v with
 | .c x=>k x
 |_=>False
noncomputable def kR (v:V) (k:Nat→Prop):Prop:=match v with
 | .r n=>k n
 |_=>False
theorem ooE {α:Type} {o:Option α} {k:α→Prop} {g:Prop} (h:oo o k) (f:∀ a,o=some a→k a→g):g:=match o,h with
 |some a,h=>f a rfl h
theorem ooI {α:Type} {o:Option α} {k:α→Prop} {a:α} (e:o=some a) (h:k a):oo o k:=e ▸ h
theorem kBE {b:Bool} {p g:Prop} (h:kB b p) (f:b=true→p→g):g:=match b,h with
 |true,h=>f rfl h
theorem kBI {b:Bool} {p:Prop} (e:b=true) (h:p):kB b p:=e ▸ h
theorem kCE {v:V} {k:C→Prop} {g:Prop} (h:kC v k) (f:∀ x,v= .c x→k x→g):g:=match v,h with
 | .c x,h=>f x rfl h
theorem kRE {v:V} {k:Nat→Prop} {g:Prop} (h:kR v k) (f:∀ x,v= .r x→k x→g):g:=match v,h with
 | .r x,h=>f x rfl h
noncomputable abbrev KV:=V→List O→Prop
noncomputable abbrev KB:=Bool→List O→Prop
noncomputable abbrev KF:=Fl→Fm→List O→Prop
noncomputable abbrev KA:=Fm→List O→Prop
noncomputable def flq (fl:Fl) (a b:Prop) (c:V→Prop):Prop:=match fl with
 | .nx=>a
 | .bk=>b
 | .rt v=>c v
structure Rec where
 ex:X→Fm→List O→KV→Prop
 ts:X→Fm→List O→KB→Prop
 st:S→Fm→List O→KF→Prop
 whl:X→List S→Fm→List O→KF→Prop
 call:Nat→V→List V→List O→KV→Prop
noncomputable def JD:O→Option (Nat × List (Nat × C))
 | .ins c l=>some (c,l)
 |_=>none
noncomputable def JE:O→Option (List C)
 | .lst l=>some l
 |_=>none
noncomputable def vC:V→Option C
 | .c x=>some x
 |_=>none
noncomputable def BM:C→Option (Nat × List (Nat × C))
 | .ins c l=>some (c,l)
 |_=>none
section
variable (Tt:Tb) (r:Rec)
noncomputable def exs:List X→Fm→List O→(List V→List O→Prop)→Prop
 | [],_,H,q=>q [] H
 |e::es,F,H,q=>r.ex e F H fun v H=>exs es F H fun vs H=>q (v::vs) H
noncomputable def tss (a:Bool):List X→Fm→List O→KB→Prop
 | [],_,H,q=>q a H
 |e::es,F,H,q=>r.ts e F H fun b H=>cond (b == a) (tss a es F H q) (q b H)
noncomputable def BN (H:List O):V→Option Bool
 | .c (.bool b)=>some b
 | .c (.lst l)=>cond (Nat.ble l.length lim) (some (!l.isEmpty)) none
 |_=>none
noncomputable def bops (a:Bool):List X→Fm→List O→KV→Prop
 | [],_,_,_=>False
 |e::es,F,H,q=>r.ex e F H fun v H=>cond es.isEmpty (q v H) (oo (BN H v) fun b=>cond (b == a) (bops a es F H q) (q v H))
noncomputable def chain:List CmpOp→V→List X→Fm→List O→KB→Prop
 | [],_,_,_,_,_=>False
 |op::ops,l,es,F,H,q=>match es with
  | []=>False
  |e::es=>r.ex e F H fun v H=>oo (jS H op l v) fun b=>cond ops.isEmpty (kB es.isEmpty (q b H)) (cond b (chain ops v es F H q) (q false H))
noncomputable def sts:List S→Fm→List O→KF→Prop
 | [],F,H,q=>q .nx F H
 |s::ss,F,H,q=>r.st s F H fun fl F H=>flq fl (sts ss F H q) (q .bk F H) fun v=>q (.rt v) F H
noncomputable def pB (c a:Nat):Bool:=match Tt.cl c with
 |some d=>mem a d.fl
 |none=>false
noncomputable def jT (c a:Nat):Bool:=match Tt.cl c with
 |some (.mtb _ fl)=>mem a fl
 |_=>false
noncomputable def JF (ob:O) (i x:C):Option O:=match ob with
 | .lst l=>(asI i).bind fun j=>(ixS j l.length).bind fun j=>some (.lst (l.set j x))
 | .dcs l=>(asS i).bind fun s=>if l.length≤8∧mE (l.map (·.1))=true then some (.dcs (vE s x l)) else none
 | .ins _ _=>none
noncomputable def asg1 (t:T) (v:V) (F:Fm) (H:List O) (q:KA):Prop:=match t with
 | .nm n=>q {F with vs:=put n v F.vs} H
 | .at o a=>r.ex o F H fun w H=>kR w fun n=>kC v fun x=>oo (H[n]?) fun ob=>oo (JD ob) fun p=>kB (jT Tt p.1 a && Nat.ble p.2.length 30) (q F (H.set n (.ins p.1 (put a x p.2))))
 | .ix o i=>r.ex o F H fun w H=>kR w fun n=>r.ex i F H fun iv H=>kC iv fun i=>kC v fun x=>oo (H[n]?) fun ob=>oo (JF ob i x) fun ob=>q F (H.set n ob)
 |_=>False
noncomputable def asgs:List T→List C→Fm→List O→KA→Prop
 | [],_,F,H,q=>q F H
 |t::ts,cs,F,H,q=>match cs with
  | []=>False
  |c::cs=>asg1 Tt r t (.c c) F H fun F H=>asgs ts cs F H q
noncomputable def asg (t:T) (v:V) (F:Fm) (H:List O) (q:KA):Prop:=match tpT t with
 |some ts=>kC v fun c=>oo (asT c) fun cs=>kB (Nat.beq ts.length cs.length) (asgs Tt r ts cs F H q)
 |none=>asg1 Tt r t v F H q
noncomputable def loop (t:T) (b:List S):List C→Fm→List O→KF→Prop
 | [],F,H,q=>q .nx F H
 |c::cs,F,H,q=>asg Tt r t (.c c) F H fun F H=>sts r b F H fun fl F H=>flq fl (loop t b cs F H q) (q .nx F H) fun v=>q (.rt v) F H
noncomputable def alls:List X→Fm→List O→KB→Prop
 | [],_,H,q=>q true H
 |e::es,F,H,q=>r.ts e F H fun b H=>cond b (alls es F H q) (q false H)
noncomputable def d6 (ns:List Nat):List (Nat × V)→List (Nat × V)
 | []=>[]
 |p::l=>match mem p.1 ns with
  |true=>d6 ns l
  |false=>p::d6 ns l
noncomputable def comp (e:X) (t:T) (cs:List X):List C→Fm→List O→(List C→List O→Prop)→Prop
 | [],_,H,q=>q [] H
 |c::l,F,H,q=>asg Tt r t (.c c) F H fun F H=>alls r cs F H fun b H=>cond b (r.ex e F H fun v H=>kC v fun x=>comp e t cs l F H fun xs H=>q (x::xs) H) (comp e t cs l F H q)
noncomputable def com (e:X) (t:T) (it:X) (cs:List X) (F:Fm) (H:List O) (q:List C→List O→Prop):Prop:=
 r.ex it F H fun v H=>kC v fun x=>oo (eP x) fun l=>kB (Nat.ble l.length lim) (comp Tt r e t cs l {F with vs:=d6 (dot0::eE t) F.vs} H q)
noncomputable def iB (d:Nat) (f:FDef) (as:List V) (H:List O) (q:KV):Prop:=
 oo (eL f.ps (f.ds.map .c) as) fun vs=>sts r f.body ⟨d,vs⟩ H fun fl _ H'=>flq fl (q (.c .none) (H'.take H.length)) False fun v=>oo (back H.length H' v) fun v=>q v (H'.take H.length)
noncomputable def j9 (d:Nat) (f:FDef) (as:List V) (H:List O) (q:KV):Prop:=match eO as with
 |some _=>iB r d f as [] fun v _=>q v H
 |none=>iB r d f as H q
noncomputable def eT (d:Nat) (a:Nat) (as:List V) (H:List O) (q:KV):Prop:=match Tt.fn a with
 |some f=>j9 r d f as H q
 |none=>oo (Tt.cl a) fun c=>match c with
  | .rcd ps ds=>oo (eO as) fun cs=>oo (eL ps ds cs) fun fs=>q (.c (.ins a fs)) H
  | .mtb i _=>oo (Tt.fn i) fun f=>iB r d f (.r H.length::as) (H++[.ins a []]) fun v H'=>kB (wT v) (q (.r H.length) H')
noncomputable def pE (d:Nat) (f:V) (as:List V) (H:List O) (q:KV):Prop:=kC f fun c=>match c with
 | .blt b=>oo (as.mapM (view H)) fun cs=>oo (iY b cs) fun x=>q (.c x) H
 | .typ t=>oo (as.mapM (view H)) fun cs=>oo (iZ t cs) fun x=>q (.c x) H
 | .obj a=>match d with
  |0=>False
  |d+1=>eT Tt r d a as H q
 |_=>False
noncomputable def FX:V→Bool
 | .c (.lst _)=>true
 |_=>false
noncomputable def tgV (o:V) (m:Nat) (H:List O):Option Tg:=(view H o).bind fun oc=>match BM oc with
 |some (c,fs)=>match lk fs m with
  |some _=>none
  |none=>(Tt.me c m).map .fn
 |none=>cond (FX o) none ((dD oc m).map .bm)
noncomputable def JG (b:Bm) (l:List C) (x:C):Option (List C):=match b with
 | .lappend=>if l.length < lim then some (l++[x]) else none
 | .lextend=>(asL x).bind fun xs=>if l.length+xs.length≤lim then some (l++xs) else none
 |_=>none
noncomputable def BO:Bm→Bool
 | .lappend=>true
 | .lextend=>true
 |_=>false
noncomputable def wW (d:Nat) (g:Tg) (o:V) (as:List V) (H:List O) (q:KV):Prop:=match g with
 | .fn a=>r.call d (.c (.obj a)) (o::as) H q
 | .bm b=>cond (BO b) (kR o fun n=>oo (H[n]?) fun ob=>oo (JE ob) fun l=>oo (one? as) fun v=>kC v fun x=>oo (JG b l x) fun l=>q (.c .none) (H.set n (.lst l)))
   (oo (view H o) fun oc=>oo (as.mapM (view H)) fun cs=>oo (hG b oc cs) fun x=>q (.c x) H)
noncomputable def okE:V→Bool
 | .c .none=>true
 | .c (.int _)=>true
 | .c (.bool _)=>true
 |_=>false
noncomputable def cU (e:X) (F:Fm) (H:List O) (q:KV):Prop:=match e with
  | .con c=>q (.c c) H
  | .var n=>oo (lk F.vs n) fun v=>q v H
  | .tup es=>exs r es F H fun vs H=>oo (tB vs) fun v=>q v H
  | .lst es=>exs r es F H fun vs H=>oo (eO vs) fun x=>q (.c (.lst x)) H
  | .bop a es=>bops r a es F H q
  | .neg e=>r.ex e F H fun v H=>kC v fun c=>oo (asI c) fun i=>q (.c (.int (-i))) H
  | .bin op a b=>r.ex a F H fun v H=>r.ex b F H fun w H=>oo (rK H op v w) fun v=>q v H
  | .cmp a ops es=>r.ex a F H fun v H=>chain r ops v es F H fun b H=>q (.c (.bool b)) H
  | .ite t a b=>r.ts t F H fun c H=>cond c (r.ex a F H q) (r.ex b F H q)
  | .atr o a=>r.ex o F H fun o H=>oo ((view H o).bind BM) fun p=>kB (pB Tt p.1 a) (oo (lk p.2 a) fun x=>q (.c x) H)
  | .idx o i=>r.ex o F H fun o H=>r.ex i F H fun i H=>kC i fun i=>oo (view H o) fun o=>oo (iX o i) fun x=>q (.c x) H
  | .sli o a b=>r.ex o F H fun o H=>r.ex a F H fun a H=>kC a fun a=>r.ex b F H fun b H=>kC b fun b=>oo (view H o) fun o=>oo (j5 o a b) fun x=>q (.c x) H
  | .cal f es=>r.ex f F H fun f H=>exs r es F H fun as H=>r.call F.d f as H q
  | .met o m es=>r.ex o F H fun o H=>oo (tgV Tt o m H) fun g=>exs r es F H fun as H=>wW r F.d g o as H q
  | .com e t it cs=>com Tt r e t it cs F H fun xs H=>q (.c (.lst xs)) H
  | .dct ks vs=>match ks with
   | []=>kB vs.isEmpty (q (.c (.dcs [])) H)
   |k::ks=>kB ks.isEmpty (oo (one? vs) fun v=>r.ex k F H fun a H=>kC a fun a=>oo (asS a) fun s=>r.ex v F H fun b H=>kC b fun x=>q (.c (.dcs [(s,x)])) H)
  |_=>False
noncomputable def tsV (e:X) (F:Fm) (H:List O) (q:KB):Prop:=r.ex e F H fun v H=>oo (BN H v) fun b=>q b H
noncomputable def fJ (e:X) (F:Fm) (H:List O) (q:KB):Prop:=match e with
  | .not e=>r.ts e F H fun b H=>q (!b) H
  | .bop a es=>tss r a es F H q
  | .ite t a b=>r.ts t F H fun c H=>cond c (r.ts a F H q) (r.ts b F H q)
  | .cmp a ops es=>r.ex a F H fun v H=>chain r ops v es F H q
  |e=>tsV r e F H q
noncomputable def c4 (s:S) (F:Fm) (H:List O) (q:KF):Prop:=match s with
  | .exp e=>r.ex e F H fun v H=>kB (okE v) (q .nx F H)
  | .ret e=>r.ex e F H fun v H=>q (.rt v) F H
  | .asg t e=>r.ex e F H fun v H=>asg Tt r t v F H fun F H=>q .nx F H
  | .mls n es=>exs r es F H fun vs H=>oo (eO vs) fun cs=>q .nx {F with vs:=put n (.r H.length) F.vs} (H++[.lst cs])
  | .mdc n=>q .nx {F with vs:=put n (.r H.length) F.vs} (H++[.dcs []])
  | .asc n e t it cs=>com Tt r e t it cs F H fun xs H=>q .nx {F with vs:=put n (.c (.lst xs)) F.vs} H
  | .ite t a b=>r.ts t F H fun c H=>cond c (sts r a F H q) (sts r b F H q)
  | .whl t b=>r.whl t b F H q
  | .lop t it b=>r.ex it F H fun v H=>oo (rL H v) fun l=>loop Tt r t b l F H q
  | .brk=>q .bk F H
  | .pas=>q .nx F H
  | .try_ b=>sts r b F H q
  | .bad=>False
noncomputable def tC (t:X) (b:List S) (F:Fm) (H:List O) (q:KF):Prop:=r.ts t F H fun c H=>cond c (sts r b F H fun fl F H=>flq fl (r.whl t b F H q) (q .nx F H) fun v=>q (.rt v) F H) (q .nx F H)
end
noncomputable def step (Tt:Tb) (r:Rec):Rec:=⟨cU Tt r,fJ r,c4 Tt r,tC r,pE Tt r⟩
noncomputable def fX:X→Bool
 | .not _=>false
 | .bop _ _=>false
 | .ite _ _ _=>false
 | .cmp _ _ _=>false
 |_=>true
theorem pG {r:Rec} {e:X} {F:Fm} {H:List O} (h:fX e=true) {q:KB}:fJ r e F H q=tsV r e F H q:=by
 rcases e with _ |_ <;> first |exact rfl |exact Bool.noConfusion h
noncomputable def bot:Rec:=⟨fun _ _ _ _=>False,fun _ _ _ _=>False,fun _ _ _ _=>False,fun _ _ _ _ _=>False,fun _ _ _ _ _=>False⟩
noncomputable def run (Tt:Tb):Nat→Rec
 |0=>bot
 |n+1=>step Tt (run Tt n)
set_option genSizeOf true
set_option genInjectivity true
set_option genCtorIdx true
set_option backward.match.sparseCases true
noncomputable abbrev vr (n:Nat):X:=.var n
noncomputable abbrev ki (i:Int):X:=.con (.int i)
noncomputable abbrev ko (n:Nat):X:=.con (.obj n)
noncomputable abbrev kl:X:=.con (.blt .len)
noncomputable abbrev zA:Nat:=24948
noncomputable abbrev zB:Nat:=1684108385
noncomputable abbrev zC:Nat:=122472945251443
noncomputable abbrev zD:Nat:=1668244581
noncomputable abbrev zE:Nat:=1936026726
noncomputable abbrev zF:Nat:=112602859201651
noncomputable abbrev zG:Nat:=109356082491250
noncomputable abbrev zH:Nat:=1885434484
noncomputable abbrev zI:Nat:=6647396
noncomputable abbrev zJ:Nat:=1818848869
noncomputable abbrev zK:Nat:=1851878757
noncomputable abbrev zL:Nat:=482804589413
noncomputable abbrev zM:Nat:=1802071652
noncomputable abbrev zN:Nat:=422608071022
noncomputable abbrev zO:Nat:=107135549927012
noncomputable abbrev zP:Nat:=1936287598
noncomputable abbrev zQ:Nat:=2003792484
noncomputable abbrev zR:Nat:=439956631140
noncomputable abbrev zS:Nat:=1919907699
noncomputable abbrev zT:Nat:=1936748404
noncomputable abbrev zU:Nat:=123597974889843
noncomputable abbrev zV:Nat:=1952542821
noncomputable abbrev zW:Nat:=1785686382
noncomputable abbrev zX:Nat:=439854918756
noncomputable abbrev zY:Nat:=1818325876
noncomputable abbrev zZ:Nat:=7308888575346044519
noncomputable abbrev z0:Nat:=121450625394034
noncomputable abbrev z1:Nat:=1651467385
noncomputable abbrev z2:Nat:=482671228019
noncomputable abbrev z3:Nat:=7093017055122780793
noncomputable abbrev z4:Nat:=431198598248
noncomputable abbrev z5:Nat:=7566690
noncomputable abbrev z6:Nat:=6583653
noncomputable abbrev z7:Nat:=439855772532
noncomputable abbrev z8:Nat:=482854658917
noncomputable abbrev z9:Nat:=512869299304
noncomputable abbrev zAA:Nat:=108187682958948
noncomputable abbrev zAB:Nat:=7496055
noncomputable abbrev zAC:Nat:=1835102827
noncomputable abbrev zAD:Nat:=500086104428
noncomputable abbrev zAE:Nat:=427071729268
noncomputable abbrev zAF:Nat:=1952807028
noncomputable abbrev zAG:Nat:=422608074094
noncomputable abbrev zAH:Nat:=29681726366513268
noncomputable abbrev zAI:Nat:=465491486066
noncomputable abbrev zAJ:Nat:=465625310579
noncomputable abbrev zAK:Nat:=2203193153848618413943
noncomputable abbrev zAL:Nat:=1751478885
noncomputable abbrev zAM:Nat:=1650553701
noncomputable abbrev zAN:Nat:=1953459300
noncomputable abbrev zAO:Nat:=512853240933
noncomputable abbrev zAP:Nat:=1885693291
noncomputable abbrev zAQ:Nat:=1717921124
noncomputable abbrev zAR:Nat:=27980790435636596
noncomputable abbrev zAS:Nat:=7630704
noncomputable abbrev zAT:Nat:=123563833126259
noncomputable abbrev zAU:Nat:=512970880104
noncomputable abbrev zAV:Nat:=482670637683
noncomputable abbrev zAW:Nat:=123563834369380
noncomputable abbrev zAX:Nat:=7020109512776508788
noncomputable abbrev zAY:Nat:=427070612851
noncomputable abbrev zAZ:Nat:=1802069107
noncomputable abbrev zA0:Nat:=452824294770
noncomputable abbrev zA1:Nat:=108230565520755
noncomputable abbrev zA2:Nat:=1937010544
noncomputable abbrev zA3:Nat:=108170671449444
noncomputable abbrev zA4:Nat:=1952541541
noncomputable abbrev zA5:Nat:=497976730291568946472292
noncomputable abbrev zA6:Nat:=1945221610359653426546
noncomputable abbrev zA7:Nat:=1718185572
noncomputable abbrev zA8:Nat:=512970876019
noncomputable abbrev zA9:Nat:=1818583396
noncomputable abbrev zBA:Nat:=495689625203
noncomputable abbrev zBB:Nat:=482854660462
noncomputable abbrev zBC:Nat:=1801810036
noncomputable abbrev zBD:Nat:=2147851215146838877305
noncomputable abbrev zBE:Nat:=1919251316
noncomputable abbrev zBF:Nat:=1818583398
noncomputable abbrev zBG:Nat:=1835101817
noncomputable abbrev zBH:Nat:=29681726098730597
noncomputable abbrev zBI:Nat:=9224950725729532834452468757113
noncomputable abbrev zBJ:Nat:=549849911077650781528933
noncomputable abbrev zBK:Nat:=474402222013312016344179
noncomputable abbrev zBL:Nat:=2147851215146989481572
noncomputable abbrev zBM:Nat:=7598521920030274665
noncomputable abbrev zBN:Nat:=140167989985848012435619258281700455284
noncomputable def f26:FDef:=⟨[zAX],[],[.ret (.cal (.con (.typ .dict)) [.com (.tup [.idx (vr zAX) (vr z0),vr z0]) (.nm z0) (.cal (.con (.typ .range)) [.cal (kl) [vr zAX]]) []])]⟩
noncomputable def f31:FDef:=⟨[zC,zAX],[],[.asg (.nm zAD) (ki 0),.lop (.nm zD) (vr zC) [.asg (.nm zAD) (.bin .Add (.bin .Mult (ki 256) (vr zAD)) (vr zD))],.asg (.nm zAE) (.bin .Add (.cal (kl) [vr zC]) (ki 1)),.asg (.nm zAD) (.bin .LShift (vr zAD) (.bin .Sub (.bin .Mult (ki 6) (vr zAE)) (.bin .Mult (ki 8) (.cal (kl) [vr zC])))),.ret (.com (.idx (vr zAX) (.bin .BitAnd (.bin .RShift (vr zAD) (.bin .Mult (ki 6) (vr z8))) (ki 63))) (.nm z8) (.cal (.con (.typ .range)) [.bin .Sub (vr zAE) (ki 1),.neg (ki 1),.neg (ki 1)]) [])]⟩
noncomputable def f36:FDef:=⟨[zAK],[],[.asg (.nm zAD) (ki 0),.lop (.nm z0) (vr zAK) [.asg (.nm zAD) (.bin .Add (.bin .Mult (ki 64) (vr zAD)) (vr z0))],.asg (.nm zAE) (.bin .Sub (.cal (kl) [vr zAK]) (ki 1)),.asg (.nm 495806673509) (.bin .Sub (.bin .Mult (ki 6) (.cal (kl) [vr zAK])) (.bin .Mult (ki 8) (vr zAE))),.asg (.nm zAO) (.bin .RShift (vr zAD) (vr 495806673509)),.ret (.tup [.cal (.con (.typ .bytes)) [.com (.bin .BitAnd (.bin .RShift (vr zAO) (.bin .Mult (ki 8) (vr z8))) (ki 255)) (.nm z8) (.cal (.con (.typ .range)) [.bin .Sub (vr zAE) (ki 1),.neg (ki 1),.neg (ki 1)]) []],.bin .BitAnd (vr zAD) (.bin .Sub (.bin .LShift (ki 1) (vr 495806673509)) (ki 1))])]⟩
noncomputable def f43:FDef:=⟨[zC,zAX],[],[.mls zAY [],.lop (.nm zN) (.cal (.con (.typ .range)) [ki 0,.cal (kl) [vr zC],ki 3]) [.exp (.met (vr zAY) 111568023285348 [.cal (ko 31) [.sli (vr zC) (vr zN) (.bin .Add (vr zN) (ki 3)),vr zAX]])],.ret (.cal (.con (.typ .bytes)) [vr zAY])]⟩
noncomputable def f50:FDef:=⟨[zC],[],[.ret (.bin .Add (.cal (ko 43) [vr zC,.con (.byt [65,66,67,68,69,70,71,72,73,74,75,76,77,78,79,80,81,82,83,84,85,86,87,88,89,90,97,98,99,100,101,102,103,104,105,106,107,108,109,110,111,112,113,114,115,116,117,118,119,120,121,122,48,49,50,51,52,53,54,55,56,57,43,47])]) (.cal (.con (.typ .bytes)) [.bin .Mult (.lst [ki 61]) (.bin .Mod (.neg (.cal (kl) [vr zC])) (ki 3))]))]⟩
noncomputable def f55:FDef:=⟨[zJ,z9],[],[.ite (.cmp (vr z9) [.Lt] [ki 1]) [.ret (vr zJ)] [],.ret (.met (.con (.byt [13,10])) zW [.com (.sli (vr zJ) (vr zN) (.bin .Add (vr zN) (vr z9))) (.nm zN) (.cal (.con (.typ .range)) [ki 0,.cal (kl) [vr zJ],vr z9]) []])]⟩
noncomputable def f63:FDef:=⟨[zC,z9],[.int 76],[.ret (.cal (ko 55) [.cal (ko 50) [vr zC],vr z9])]⟩
noncomputable def f70:FDef:=⟨[zB],[],[.asg (.nm 131320545306739) (.cal (ko 26) [.con (.byt [65,66,67,68,69,70,71,72,73,74,75,76,77,78,79,80,81,82,83,84,85,86,87,88,89,90,97,98,99,100,101,102,103,104,105,106,107,108,109,110,111,112,113,114,115,116,117,118,119,120,121,122,48,49,50,51,52,53,54,55,56,57,43,47])]),.mls zAK [],.lop (.nm zD) (vr zB) [.ite (.cmp (vr zD) [.Eq] [ki 61]) [.brk] [],.ite (.cmp (vr zD) [.In] [vr 131320545306739]) [.exp (.met (vr zAK) zO [.idx (vr 131320545306739) (vr zD)])] []],.mls zR [],.lop (.nm zN) (.cal (.con (.typ .range)) [ki 0,.cal (kl) [vr zAK],ki 4]) [.ite (.cmp (.bin .Sub (.cal (kl) [vr zAK]) (vr zN)) [.Gt] [ki 1]) [.exp (.met (vr zR) zO [.idx (.cal (ko 36) [.sli (vr zAK) (vr zN) (.bin .Add (vr zN) (ki 4))]) (ki 0)])] []],.ret (.met (.con (.byt [])) zW [vr zR])]⟩
noncomputable def f137:FDef:=⟨[zE,zB,zA,zI],[.int 0,.int (-1)],[.asg (.at (vr zE) zB) (vr zB),.asg (.at (vr zE) zA) (vr zA),.asg (.at (vr zE) zI) (.ite (.cmp (vr zI) [.Lt] [ki 0]) (.cal (kl) [vr zB]) (.cal (.con (.blt .min)) [vr zI,.cal (kl) [vr zB]]))]⟩
noncomputable def f144:FDef:=⟨[zE],[],[.ret (.cmp (.atr (vr zE) zA) [.GtE] [.atr (vr zE) zI])]⟩
noncomputable def f152:FDef:=⟨[zE,418363302244],[.int 0],[.asg (.nm z8) (.bin .Add (.atr (vr zE) zA) (vr 418363302244)),.ret (.ite (.cmp (ki 0) [.LtE,.Lt] [vr z8,.atr (vr zE) zI]) (.idx (.atr (vr zE) zB) (vr z8)) (.neg (ki 1)))]⟩
noncomputable def f159:FDef:=⟨[zE],[],[.asg (.nm zD) (.met (vr zE) zAP []),.ite (.cmp (vr zD) [.GtE] [ki 0]) [.asg (.at (vr zE) zA) (.bin .Add (.atr (vr zE) zA) (ki 1))] [],.ret (vr zD)]⟩
noncomputable def f166:FDef:=⟨[zE,zQ],[],[.ret (.bop true [.cmp (.bin .Add (.atr (vr zE) zA) (.cal (kl) [vr zQ])) [.LtE] [.atr (vr zE) zI],.cmp (.sli (.atr (vr zE) zB) (.atr (vr zE) zA) (.bin .Add (.atr (vr zE) zA) (.cal (kl) [vr zQ]))) [.Eq] [vr zQ]])]⟩
noncomputable def f173:FDef:=⟨[zE,zQ],[],[.ite (.not (.met (vr zE) 126943688291443 [vr zQ])) [.ret (.con (.bool false))] [],.asg (.at (vr zE) zA) (.bin .Add (.atr (vr zE) zA) (.cal (kl) [vr zQ])),.ret (.con (.bool true))]⟩
noncomputable def f215:FDef:=⟨[zD],[],[.ret (.ite (.cmp (ki 65) [.LtE,.LtE] [vr zD,ki 90]) (.bin .Add (vr zD) (ki 32)) (vr zD))]⟩
noncomputable def f220:FDef:=⟨[zC],[],[.ret (.cal (.con (.typ .bytes)) [.com (.cal (ko 215) [vr zD]) (.nm zD) (vr zC) []])]⟩
noncomputable def f225:FDef:=⟨[zAF],[],[.ret (.met (.con (.str [])) zW [.com (.cal (.con (.blt .chr)) [.cal (ko 215) [.cal (.con (.blt .ord)) [vr zP]]]) (.nm zP) (vr zAF) []])]⟩
noncomputable def f233:FDef:=⟨[zB,zA,zI],[.int 0,.int (-1)],[.asg (.nm zAA) (.ite (.cmp (vr zI) [.Lt] [ki 0]) (.cal (kl) [vr zB]) (.cal (.con (.blt .min)) [vr zI,.cal (kl) [vr zB]])),.mls zR [],.asg (.nm zN) (vr zA),.whl (.cmp (vr zN) [.Lt] [vr zAA]) [.asg (.nm zAQ) (.met (vr zB) zA7 [.con (.byt [10]),vr zN,vr zAA]),.ite (.cmp (vr zAQ) [.Lt] [ki 0]) [.exp (.met (vr zR) zO [.tup [vr zN,vr zAA,vr zAA]]),.ret (vr zR)] [],.asg (.nm zY) (.ite (.bop true [.cmp (vr zAQ) [.Gt] [vr zN],.cmp (.idx (vr zB) (.bin .Sub (vr zAQ) (ki 1))) [.Eq] [ki 13]]) (.bin .Sub (vr zAQ) (ki 1)) (vr zAQ)),.exp (.met (vr zR) zO [.tup [vr zN,vr zY,.bin .Add (vr zAQ) (ki 1)]]),.asg (.nm zN) (.bin .Add (vr zAQ) (ki 1))],.ret (vr zR)]⟩
noncomputable def f253:FDef:=⟨[zE],[],[.ret (.cal (ko 225) [.met (.con (.str [])) zW [.com (.cal (.con (.blt .chr)) [vr zD]) (.nm zD) (.atr (vr zE) zK) []]])]⟩
noncomputable def f274:FDef:=⟨[zB,zA,zI],[],[.asg (.nm zT) (.met (vr zB) zA7 [.con (.byt [10]),vr zA,vr zI]),.ite (.cmp (vr zT) [.Lt] [ki 0]) [.ret (.tup [vr zI,vr zI])] [],.ite (.bop true [.cmp (vr zT) [.Gt] [vr zA],.cmp (.idx (vr zB) (.bin .Sub (vr zT) (ki 1))) [.Eq] [ki 13]]) [.ret (.tup [.bin .Sub (vr zT) (ki 1),.bin .Add (vr zT) (ki 1)])] [],.ret (.tup [vr zT,.bin .Add (vr zT) (ki 1)])]⟩
noncomputable def f281:FDef:=⟨[zC],[],[.lop (.nm zD) (vr zC) [.ite (.bop false [.cmp (vr zD) [.Lt] [ki 33],.cmp (vr zD) [.Gt] [ki 126],.cmp (vr zD) [.Eq] [ki 58]]) [.ret (.con (.bool false))] []],.ret (.cmp (.cal (kl) [vr zC]) [.Gt] [ki 0])]⟩
noncomputable def f288:FDef:=⟨[zB,zA,zI],[],[.asg (.nm zT) (.met (vr zB) zA7 [.con (.byt [58]),vr zA,vr zI]),.ret (.ite (.bop true [.cmp (vr zT) [.GtE] [ki 0],.cal (ko 281) [.sli (vr zB) (vr zA) (vr zT)]]) (vr zT) (.neg (ki 1)))]⟩
noncomputable def f296:FDef:=⟨[zB,zA,zI],[.int 0,.int (-1)],[.asg (.nm zA2) (.ite (.cmp (vr zI) [.Lt] [ki 0]) (.cal (kl) [vr zB]) (vr zI)),.mls zS [],.asg (.nm zAL) (vr zA),.whl (.cmp (vr zAL) [.Lt] [vr zA2]) [.asg (.tp [.nm zY,.nm zAI]) (.cal (ko 274) [vr zB,vr zAL,vr zA2]),.ite (.cmp (vr zY) [.Eq] [vr zAL]) [.ret (.tup [vr zS,vr zAI])] [],.asg (.nm 427071139694) (.cal (ko 288) [vr zB,vr zAL,vr zY]),.ite (.cmp (vr 427071139694) [.Lt] [ki 0]) [.ret (.tup [vr zS,vr zAL])] [],.whl (.bop true [.cmp (vr zAI) [.Lt] [vr zA2],.cmp (.idx (vr zB) (vr zAI)) [.In] [.con (.tup [.int 32,.int 9])]]) [.asg (.tp [.nm zY,.nm zAI]) (.cal (ko 274) [vr zB,vr zAI,vr zA2])],.exp (.met (vr zS) zO [.tup [.cal (ko 263) [.sli (vr zB) (vr zAL) (vr 427071139694),.sli (vr zB) (.bin .Add (vr 427071139694) (ki 1)) (vr zY)],vr zAL,vr zAI]]),.asg (.nm zAL) (vr zAI)],.ret (.tup [vr zS,vr zA2])]⟩
noncomputable def f302:FDef:=⟨[zB,zA,zI],[.int 0,.int (-1)],[.asg (.tp [.nm zS,.nm z1]) (.cal (ko 296) [vr zB,vr zA,vr zI]),.ret (.tup [.com (.idx (vr 7499639) (ki 0)) (.nm 7499639) (vr zS) [],vr z1])]⟩
noncomputable def f309:FDef:=⟨[zAB],[],[.mls zS [],.asg (.nm zA) (ki 0),.whl (.con (.bool true)) [.asg (.tp [.nm zY,.nm zAI]) (.cal (ko 274) [vr zAB,vr zA,.cal (kl) [vr zAB]]),.exp (.met (vr zS) zO [.sli (vr zAB) (vr zA) (vr zY)]),.ite (.cmp (vr zY) [.Eq] [.cal (kl) [vr zAB]]) [.ret (vr zS)] [],.asg (.nm zA) (vr zAI)]]⟩
noncomputable def f316:FDef:=⟨[zAB],[],[.ret (.met (.met (.con (.byt [])) zW [.cal (ko 309) [vr zAB]]) 495874894192 [.con (.byt [32,9])])]⟩
noncomputable def f323:FDef:=⟨[zF,zQ],[],[.asg (.nm 131260348654948) (.cal (ko 225) [vr zQ]),.lop (.nm zX) (vr zF) [.ite (.cmp (.met (vr zX) zQ []) [.Eq] [vr 131260348654948]) [.ret (.cal (ko 316) [.atr (vr zX) zAB])] []],.ret (.con .none)]⟩
noncomputable def f328:FDef:=⟨[zF,zA8],[],[.asc zA3 (.cal (ko 225) [vr zQ]) (.nm zQ) (vr zA8) [],.ret (.com (vr zX) (.nm zX) (vr zF) [.cmp (.met (vr zX) zQ []) [.NotIn] [vr zA3]])]⟩
noncomputable def f335:FDef:=⟨[zX],[],[.ite (.not (.cal (ko 281) [.atr (vr zX) zK])) [.ret (.con (.bool false))] [],.lop (.nm 7499639) (.sli (.cal (ko 309) [.atr (vr zX) zAB]) (ki 1) (.con .none)) [.ite (.bop false [.cmp (.cal (kl) [vr 7499639]) [.Eq] [ki 0],.cmp (.idx (vr 7499639) (ki 0)) [.NotIn] [.con (.tup [.int 32,.int 9])]]) [.ret (.con (.bool false))] []],.ret (.con (.bool true))]⟩
noncomputable def f340:FDef:=⟨[zF],[],[.lop (.nm zX) (vr zF) [.ite (.not (.cal (ko 335) [vr zX])) [.bad] []],.ret (.met (.con (.byt [])) zW [.com (.bin .Add (.bin .Add (.bin .Add (.atr (vr zX) zK) (.con (.byt [58]))) (.atr (vr zX) zAB)) (.con (.byt [13,10]))) (.nm zX) (vr zF) []])]⟩
noncomputable def f362:FDef:=⟨[zAR],[],[.ite (.cmp (vr zAR) [.NotIn] [.con (.tup [.str [117,115,45,97,115,99,105,105],.str [105,115,111,45,56,56,53,57,45,49],.str [117,116,102,45,56]])]) [.bad] []]⟩
noncomputable def f388:FDef:=⟨[zC,zA],[],[.asg (.nm zA9) (.idx (vr zC) (vr zA)),.ite (.cmp (vr zA9) [.Lt] [ki 128]) [.ret (.tup [vr zA9,ki 1])] [],.asg (.tp [.nm 465557353332,.nm 1836020596,.nm zAE]) (.cal (ko 381) [vr zA9]),.ite (.cmp (vr zAE) [.Eq] [ki 0]) [.ret (.tup [.neg (ki 1),ki 1])] [],.asg (.nm zD) (.bin .Mod (vr zA9) (.bin .RShift (ki 64) (vr zAE))),.lop (.nm z8) (.cal (.con (.typ .range)) [ki 1,.bin .Add (vr zAE) (ki 1)]) [.ite (.bop false [.cmp (.bin .Add (vr zA) (vr z8)) [.GtE] [.cal (kl) [vr zC]],.not (.cmp (vr 465557353332) [.LtE,.LtE] [.idx (vr zC) (.bin .Add (vr zA) (vr z8)),vr 1836020596])]) [.ret (.tup [.neg (ki 1),vr z8])] [],.asg (.nm zD) (.bin .Add (.bin .Mult (vr zD) (ki 64)) (.bin .Mod (.idx (vr zC) (.bin .Add (vr zA) (vr z8))) (ki 64))),.bad],.ret (.tup [vr zD,.bin .Add (vr zAE) (ki 1)])]⟩
noncomputable def f395:FDef:=⟨[zAR,zC,zA],[],[.ite (.cmp (vr zAR) [.Eq] [.con (.str [117,116,102,45,56])]) [.ret (.cal (ko 388) [vr zC,vr zA])] [],.ite (.bop true [.cmp (vr zAR) [.Eq] [.con (.str [117,115,45,97,115,99,105,105])],.cmp (.idx (vr zC) (vr zA)) [.Gt] [ki 127]]) [.ret (.tup [.neg (ki 1),ki 1])] [],.ret (.tup [.idx (vr zC) (vr zA),ki 1])]⟩
noncomputable def f409:FDef:=⟨[zAR,zC],[],[.exp (.cal (ko 362) [vr zAR]),.mls zBA [],.asg (.nm zA) (ki 0),.whl (.cmp (vr zA) [.Lt] [.cal (kl) [vr zC]]) [.asg (.tp [.nm zD,.nm 119182899770472]) (.cal (ko 395) [vr zAR,vr zC,vr zA]),.ite (.cmp (vr zD) [.Lt] [ki 0]) [.bad] [],.exp (.met (vr zBA) zO [.cal (.con (.blt .chr)) [vr zD]]),.asg (.nm zA) (.bin .Add (vr zA) (vr 119182899770472))],.ret (.met (.con (.str [])) zW [vr zBA])]⟩
noncomputable def f416:FDef:=⟨[zC],[],[.try_ [.ret (.cal (ko 409) [.con (.str [117,116,102,45,56]),vr zC])]]⟩
noncomputable def f438:FDef:=⟨[zB,zA],[],[.ite (.cmp (.sli (vr zB) (vr zA) (.bin .Add (vr zA) (ki 1))) [.Eq] [.con (.byt [10])]) [.ret (.bin .Add (vr zA) (ki 1))] [],.ret (.ite (.cmp (.sli (vr zB) (vr zA) (.bin .Add (vr zA) (ki 2))) [.Eq] [.con (.byt [13,10])]) (.bin .Add (vr zA) (ki 2)) (.neg (ki 1)))]⟩
noncomputable def f445:FDef:=⟨[zB,zA,zAG],[],[.ite (.bop false [.cmp (vr zA) [.GtE] [.cal (kl) [vr zB]],.bop true [.cmp (.idx (vr zB) (vr zA)) [.Eq] [ki 92],.cmp (.bin .Add (vr zA) (ki 1)) [.Eq] [.cal (kl) [vr zB]]]]) [.bad] [],.ite (.cmp (.idx (vr zB) (vr zA)) [.Eq] [ki 92]) [.ite (.cmp (.idx (vr zB) (.bin .Add (vr zA) (ki 1))) [.In] [.con (.tup [.int 0,.int 10,.int 13])]) [.bad] [],.ret (.tup [.sli (vr zB) (.bin .Add (vr zA) (ki 1)) (.bin .Add (vr zA) (ki 2)),.bin .Add (vr zA) (ki 2)])] [],.asg (.nm zAA) (.cal (ko 438) [vr zB,vr zA]),.ite (.cmp (vr zAA) [.GtE] [ki 0]) [.ret (.tup [.con (.byt []),vr zAA])] [],.ite (.cmp (.idx (vr zB) (vr zA)) [.In] [.con (.tup [.int 0,.int 10,.int 13])]) [.bad] [],.ret (.tup [.sli (vr zB) (vr zA) (.bin .Add (vr zA) (ki 1)),.bin .Add (vr zA) (ki 1)])]⟩
noncomputable def f452:FDef:=⟨[zB,zAG,27985248627813991,zA3],[],[.mls z2 [],.asg (.nm zA) (.bin .Add (vr zAG) (ki 1)),.whl (.cmp (.sli (vr zB) (vr zA) (.bin .Add (vr zA) (ki 1))) [.NotEq] [vr 27985248627813991]) [.ite (.bop true [.cmp (vr zA) [.Lt] [.cal (kl) [vr zB]],.cmp (.idx (vr zB) (vr zA)) [.In] [vr zA3]]) [.bad] [],.asg (.tp [.nm zC,.nm zA]) (.cal (ko 445) [vr zB,vr zA,vr zAG]),.exp (.met (vr z2) zO [vr zC])],.ret (.tup [.met (.con (.byt [])) zW [vr z2],.bin .Add (vr zA) (ki 1)])]⟩
noncomputable def f466:FDef:=⟨[zC,zBA],[],[.mls z2 [],.lop (.nm zA) (.cal (.con (.typ .range)) [.cal (kl) [vr zC]]) [.ite (.cmp (.idx (vr zC) (vr zA)) [.In] [.con (.tup [.int 0,.int 10,.int 13])]) [.bad] [],.ite (.cmp (.idx (vr zC) (vr zA)) [.In] [vr zBA]) [.exp (.met (vr z2) zO [.con (.byt [92])])] [],.exp (.met (vr z2) zO [.sli (vr zC) (vr zA) (.bin .Add (vr zA) (ki 1))])],.ret (.met (.con (.byt [])) zW [vr z2])]⟩
noncomputable def f486:FDef:=⟨[zE],[],[.ret (.tup [.atr (vr zE) zAS,.atr (vr zE) z5,.cal (.con (.typ .tuple)) [.com (.tup [vr zK,.idx (.atr (vr zE) zAT) (vr zK)]) (.nm zK) (.cal (.con (.blt .sorted)) [.atr (vr zE) zAT]) []]])]⟩
noncomputable def f493:FDef:=⟨[zE],[],[.ret (.cmp (.atr (vr zE) zAS) [.Eq] [.con (.str [109,117,108,116,105,112,97,114,116])])]⟩
noncomputable def f500:FDef:=⟨[zE],[],[.ret (.bop true [.cmp (.atr (vr zE) zAS) [.Eq] [.con (.str [109,101,115,115,97,103,101])],.cmp (.atr (vr zE) z5) [.Eq] [.con (.str [114,102,99,56,50,50])]])]⟩
noncomputable def f507:FDef:=⟨[zE],[],[.ret (.cmp (.atr (vr zE) zAS) [.Eq] [.con (.str [116,101,120,116])])]⟩
noncomputable def f528:FDef:=⟨[zD],[],[.ret (.bop true [.cmp (ki 32) [.Lt,.Lt] [vr zD,ki 127],.cmp (vr zD) [.NotIn] [.con (.byt [40,41,60,62,64,44,59,58,92,34,47,91,93,63,61])]])]⟩
noncomputable def f535:FDef:=⟨[zG],[],[.whl (.not (.met (vr zG) zBH [])) [.ite (.cmp (.met (vr zG) zAP []) [.In] [.con (.tup [.int 9,.int 10,.int 13,.int 32])]) [.exp (.met (vr zG) zA4 [])] [.ite (.cmp (.met (vr zG) zAP []) [.Eq] [ki 40]) [.asg (.at (vr zG) zA) (.idx (.cal (ko 459) [.atr (vr zG) zB,.atr (vr zG) zA]) (ki 1))] [.ret (.con .none)]]]]⟩
noncomputable def f542:FDef:=⟨[zG],[],[.asg (.nm z7) (.atr (vr zG) zA),.whl (.cal (ko 528) [.met (vr zG) zAP []]) [.exp (.met (vr zG) zA4 [])],.ite (.cmp (.atr (vr zG) zA) [.Eq] [vr z7]) [.bad] [],.ret (.sli (.atr (vr zG) zB) (vr z7) (.atr (vr zG) zA))]⟩
noncomputable def f549:FDef:=⟨[zD],[],[.ret (.bop false [.cmp (vr zD) [.Gt] [ki 127],.cal (ko 528) [vr zD]])]⟩
noncomputable def f556:FDef:=⟨[zG],[],[.ite (.cmp (.met (vr zG) zAP []) [.Eq] [ki 34]) [.asg (.tp [.nm zAU,.at (vr zG) zA]) (.cal (ko 452) [.atr (vr zG) zB,.atr (vr zG) zA,.con (.byt [34]),.con (.byt [])]),.ret (vr zAU)] [],.asg (.nm z7) (.atr (vr zG) zA),.whl (.cal (ko 549) [.met (vr zG) zAP []]) [.exp (.met (vr zG) zA4 [])],.ite (.cmp (.atr (vr zG) zA) [.Eq] [vr z7]) [.bad] [],.ret (.sli (.atr (vr zG) zB) (vr z7) (.atr (vr zG) zA))]⟩
noncomputable def f561:FDef:=⟨[zC],[],[.ret (.met (.con (.str [])) zW [.com (.cal (.con (.blt .chr)) [vr zD]) (.nm zD) (.cal (ko 220) [vr zC]) []])]⟩
noncomputable def f568:FDef:=⟨[zG],[],[.mls zAV [],.exp (.cal (ko 535) [vr zG]),.whl (.not (.met (vr zG) zBH [])) [.ite (.cmp (.met (vr zG) zA4 []) [.NotEq] [ki 59]) [.bad] [],.exp (.cal (ko 535) [vr zG]),.ite (.bop true [.not (.met (vr zG) zBH []),.cmp (.met (vr zG) zAP []) [.NotEq] [ki 59]]) [.asg (.nm zK) (.cal (ko 561) [.cal (ko 542) [vr zG]]),.exp (.cal (ko 535) [vr zG]),.ite (.cmp (.met (vr zG) zA4 []) [.NotEq] [ki 61]) [.bad] [],.exp (.cal (ko 535) [vr zG]),.exp (.met (vr zAV) zO [.tup [vr zK,.cal (ko 556) [vr zG]]]),.exp (.cal (ko 535) [vr zG])] []],.ret (vr zAV)]⟩
noncomputable def f582:FDef:=⟨[zK],[],[.asg (.nm zT) (.met (vr zK) zA7 [.con (.str [42])]),.ite (.cmp (vr zT) [.Lt] [ki 1]) [.ret (.con .none)] [],.asg (.nm zA5) (.cmp (.idx (vr zK) (.neg (ki 1))) [.Eq] [.con (.str [42])]),.ite (.bop true [vr zA5,.cmp (vr zT) [.Eq] [.bin .Sub (.cal (kl) [vr zK]) (ki 1)]]) [.ret (.tup [.sli (vr zK) (.con .none) (vr zT),ki 0,.con (.bool true)])] [],.asg (.nm z0) (.cal (ko 575) [.ite (vr zA5) (.sli (vr zK) (.bin .Add (vr zT) (ki 1)) (.bin .Sub (.cal (kl) [vr zK]) (ki 1))) (.sli (vr zK) (.bin .Add (vr zT) (ki 1)) (.con .none))]),.ret (.ite (.cmp (vr z0) [.GtE] [ki 0]) (.tup [.sli (vr zK) (.con .none) (vr zT),vr z0,vr zA5]) (.con .none))]⟩
noncomputable def f613:FDef:=⟨[zAV],[],[.mdc zBB,.mdc zAW,.lop (.tp [.nm zK,.nm zAU]) (vr zAV) [.asg (.nm zH) (.cal (ko 582) [vr zK]),.ite (.cmp (vr zH) [.Is] [.con .none]) [.ite (.cmp (vr zK) [.NotIn] [vr zBB]) [.asg (.ix (vr zBB) (vr zK)) (.cal (ko 416) [vr zAU])] []] [.asg (.tp [.nm zAM,.nm z0,.nm zA5]) (vr zH),.ite (.cmp (vr zAM) [.NotIn] [vr zAW]) [.asg (.ix (vr zAW) (vr zAM)) (.dct [] [])] [],.ite (.cmp (vr z0) [.NotIn] [.idx (vr zAW) (vr zAM)]) [.asg (.ix (.idx (vr zAW) (vr zAM)) (vr z0)) (.tup [vr zA5,vr zAU])] []]],.lop (.nm zAM) (vr zAW) [.ite (.cmp (ki 0) [.In] [.idx (vr zAW) (vr zAM)]) [.asg (.ix (vr zBB) (vr zAM)) (.cal (ko 606) [.idx (vr zAW) (vr zAM)])] []],.ret (vr zBB)]⟩
noncomputable def f620:FDef:=⟨[zC],[],[.asg (.nm zG) (.cal (ko 204) [vr zC]),.exp (.cal (ko 535) [vr zG]),.asg (.nm zAS) (.cal (ko 561) [.cal (ko 542) [vr zG]]),.exp (.cal (ko 535) [vr zG]),.ite (.not (.met (vr zG) 1936419184 [.con (.byt [47])])) [.bad] [],.exp (.cal (ko 535) [vr zG]),.asg (.nm z5) (.cal (ko 561) [.cal (ko 542) [vr zG]]),.ret (.cal (ko 510) [vr zAS,vr z5,.cal (ko 613) [.cal (ko 568) [vr zG]]])]⟩
noncomputable def f627:FDef:=⟨[zC],[],[.ite (.cmp (vr zC) [.Is] [.con .none]) [.ret (.cal (ko 521) [])] [],.try_ [.ret (.cal (ko 620) [vr zC])]]⟩
noncomputable def f632:FDef:=⟨[zC],[],[.ret (.bop true [.cmp (.cal (kl) [vr zC]) [.Gt] [ki 0],.cmp (.com (vr zD) (.nm zD) (vr zC) [.not (.cal (ko 528) [vr zD])]) [.Eq] [.lst []]])]⟩
noncomputable def f637:FDef:=⟨[zAF],[],[.ret (.cmp (.com (vr zP) (.nm zP) (vr zAF) [.not (.cmp (ki 32) [.LtE,.Lt] [.cal (.con (.blt .ord)) [vr zP],ki 127])]) [.Eq] [.lst []])]⟩
noncomputable def f661:FDef:=⟨[zK,zAF],[],[.asc zU (.cal (ko 466) [.cal (.con (.typ .bytes)) [.lst [.cal (.con (.blt .ord)) [vr zP]]],.con (.byt [34,92])]) (.nm zP) (vr zAF) [],.asg (.nm zAO) (.bin .Add (.bin .Add (.bin .Add (vr zK) (.con (.byt [61,34]))) (.met (.con (.byt [])) zW [vr zU])) (.con (.byt [34]))),.ite (.cmp (.bin .Add (.cal (kl) [vr zAO]) (ki 2)) [.LtE] [ki 78]) [.ret (.lst [vr zAO])] [],.asg (.nm zS) (.cal (ko 651) [vr zU,.bin .Sub (ki 66) (.cal (kl) [vr zK])]),.ret (.com (.bin .Add (.bin .Add (.bin .Add (.bin .Add (.bin .Add (vr zK) (.con (.byt [42]))) (.cal (ko 666) [vr zA])) (.con (.byt [61,34]))) (.idx (vr zS) (vr zA))) (.con (.byt [34]))) (.nm zA) (.cal (.con (.typ .range)) [.cal (kl) [vr zS]]) [])]⟩
noncomputable def f671:FDef:=⟨[zK,zAF],[],[.asg (.nm zC) (.cal (.con (.typ .bytes)) [.com (.cal (.con (.blt .ord)) [vr zP]) (.nm zP) (vr zK) [.cmp (.cal (.con (.blt .ord)) [vr zP]) [.Lt] [ki 128]]]),.asc zA3 (vr zD) (.nm zD) (vr zC) [.cmp (vr zD) [.In] [.con (.byt [42,39,37])]],.ite (.bop false [.cmp (.cal (kl) [vr zC]) [.Lt] [.cal (kl) [vr zK]],.not (.cal (ko 632) [vr zC]),.cmp (.cal (kl) [vr zK]) [.Gt] [ki 40],vr zA3,.cmp (.cal (ko 225) [vr zK]) [.NotEq] [vr zK]]) [.bad] [],.ite (.not (.cal (ko 637) [vr zAF])) [.asg (.nm zS) (.cal (ko 656) [vr zC,vr zAF])] [.asg (.nm zAU) (.cal (.con (.typ .bytes)) [.com (.cal (.con (.blt .ord)) [vr zP]) (.nm zP) (vr zAF) []]),.asg (.nm zAO) (.bin .Add (.bin .Add (vr zC) (.con (.byt [61]))) (vr zAU)),.asg (.nm zS) (.ite (.bop true [.cal (ko 632) [vr zAU],.cmp (.bin .Add (.cal (kl) [vr zAO]) (ki 2)) [.LtE] [ki 78]]) (.lst [vr zAO]) (.cal (ko 661) [vr zC,vr zAF]))],.ite (.cmp (.cal (kl) [vr zS]) [.Gt] [ki 1000]) [.bad] [],.ret (vr zS)]⟩
noncomputable def f676:FDef:=⟨[1751474532,zAT],[],[.mls zS [vr 1751474532],.lop (.nm zK) (.cal (.con (.blt .sorted)) [vr zAT]) [.exp (.met (vr zS) 111568023285348 [.com (.bin .Add (.con (.byt [32])) (vr 7499639)) (.nm 7499639) (.cal (ko 671) [vr zK,.idx (vr zAT) (vr zK)]) []])],.ret (.met (.bin .Add (.con (.byt [59])) (.con (.byt [13,10]))) zW [vr zS])]⟩
noncomputable def f681:FDef:=⟨[zM],[],[.mls zA8 [],.lop (.nm zQ) (.tup [.atr (vr zM) zAS,.atr (vr zM) z5]) [.asg (.nm zC) (.cal (.con (.typ .bytes)) [.com (.cal (.con (.blt .ord)) [vr zP]) (.nm zP) (vr zQ) [.cmp (.cal (.con (.blt .ord)) [vr zP]) [.Lt] [ki 128]]]),.ite (.bop false [.cmp (.cal (kl) [vr zC]) [.Lt] [.cal (kl) [vr zQ]],.not (.cal (ko 632) [vr zC]),.cmp (.cal (ko 225) [vr zQ]) [.NotEq] [vr zQ]]) [.bad] [],.exp (.met (vr zA8) zO [vr zC])],.ret (.cal (ko 676) [.met (.con (.byt [47])) zW [vr zA8],.atr (vr zM) zAT])]⟩
noncomputable def f688:FDef:=⟨[zD],[],[.ret (.cal (.con (.typ .bytes)) [.lst [ki 61,.idx (.con (.byt [48,49,50,51,52,53,54,55,56,57,65,66,67,68,69,70])) (.bin .FloorDiv (vr zD) (ki 16)),.idx (.con (.byt [48,49,50,51,52,53,54,55,56,57,65,66,67,68,69,70])) (.bin .Mod (vr zD) (ki 16))]])]⟩
noncomputable def f695:FDef:=⟨[zD],[],[.ite (.cmp (ki 48) [.LtE,.LtE] [vr zD,ki 57]) [.ret (.bin .Sub (vr zD) (ki 48))] [],.ite (.cmp (ki 65) [.LtE,.LtE] [vr zD,ki 70]) [.ret (.bin .Sub (vr zD) (ki 55))] [],.ite (.cmp (ki 97) [.LtE,.LtE] [vr zD,ki 102]) [.ret (.bin .Sub (vr zD) (ki 87))] [],.ret (.neg (ki 1))]⟩
noncomputable def f702:FDef:=⟨[zB,zA],[],[.ite (.cmp (.bin .Add (vr zA) (ki 2)) [.GtE] [.cal (kl) [vr zB]]) [.ret (.neg (ki 1))] [],.asg (.nm 1751738216) (.cal (ko 695) [.idx (vr zB) (.bin .Add (vr zA) (ki 1))]),.asg (.nm 7106423) (.cal (ko 695) [.idx (vr zB) (.bin .Add (vr zA) (ki 2))]),.ret (.ite (.bop true [.cmp (vr 1751738216) [.GtE] [ki 0],.cmp (vr 7106423) [.GtE] [ki 0]]) (.bin .Add (.bin .Mult (ki 16) (vr 1751738216)) (vr 7106423)) (.neg (ki 1)))]⟩
noncomputable def f709:FDef:=⟨[zD],[],[.ret (.bop false [.cmp (vr zD) [.Eq] [ki 32],.cmp (vr zD) [.Eq] [ki 9],.bop true [.cmp (ki 33) [.LtE,.LtE] [vr zD,ki 126],.cmp (vr zD) [.NotEq] [ki 61]]])]⟩
noncomputable def f716:FDef:=⟨[zJ],[],[.mls zU [],.lop (.nm zA) (.cal (.con (.typ .range)) [.cal (kl) [vr zJ]]) [.asg (.nm 7598521962761647205) (.bop false [.cmp (.idx (vr zJ) (vr zA)) [.Eq] [ki 32],.cmp (.idx (vr zJ) (vr zA)) [.Eq] [ki 9]]),.ite (.bop true [.cal (ko 709) [.idx (vr zJ) (vr zA)],.not (.bop true [vr 7598521962761647205,.cmp (vr zA) [.Eq] [.bin .Sub (.cal (kl) [vr zJ]) (ki 1)]])]) [.exp (.met (vr zU) zO [.sli (vr zJ) (vr zA) (.bin .Add (vr zA) (ki 1))])] [.exp (.met (vr zU) zO [.cal (ko 688) [.idx (vr zJ) (vr zA)]])]],.ret (vr zU)]⟩
noncomputable def f723:FDef:=⟨[zU,z9],[],[.mls zAJ [],.asg (.nm zJ) (.con (.byt [])),.lop (.nm zA) (.cal (.con (.typ .range)) [.cal (kl) [vr zU]]) [.asg (.nm 1919905645) (.ite (.cmp (vr zA) [.Eq] [.bin .Sub (.cal (kl) [vr zU]) (ki 1)]) (vr z9) (.bin .Sub (vr z9) (ki 1))),.ite (.cmp (.bin .Add (.cal (kl) [vr zJ]) (.cal (kl) [.idx (vr zU) (vr zA)])) [.Gt] [vr 1919905645]) [.exp (.met (vr zAJ) zO [.bin .Add (vr zJ) (.cal (.con (.typ .bytes)) [.lst [ki 61]])]),.asg (.nm zJ) (.con (.byt []))] [],.asg (.nm zJ) (.bin .Add (vr zJ) (.idx (vr zU) (vr zA)))],.ret (.bin .Add (vr zAJ) (.lst [vr zJ]))]⟩
noncomputable def f730:FDef:=⟨[zC,zAH],[],[.ret (.ite (vr zAH) (.met (vr zC) 495807392116 [.con (.byt [13,10])]) (.lst [vr zC]))]⟩
noncomputable def f738:FDef:=⟨[zC,zAH,z9],[.bool true,.int 76],[.ite (.cmp (vr z9) [.Lt] [ki 4]) [.bad] [],.mls zAJ [],.lop (.nm zJ) (.cal (ko 730) [vr zC,vr zAH]) [.exp (.met (vr zAJ) 111568023285348 [.cal (ko 723) [.cal (ko 716) [vr zJ],vr z9]]),.exp (.met (vr zAJ) zO [.con (.byt [13,10])])],.ret (.cal (ko 745) [.sli (vr zAJ) (.con .none) (.bin .Sub (.cal (kl) [vr zAJ]) (ki 1))])]⟩
noncomputable def f745:FDef:=⟨[zAJ],[],[.mls z2 [],.lop (.nm zJ) (vr zAJ) [.exp (.met (vr z2) zO [vr zJ]),.ite (.cmp (.sli (vr zJ) (.neg (ki 1)) (.con .none)) [.Eq] [.cal (.con (.typ .bytes)) [.lst [ki 61]]]) [.exp (.met (vr z2) zO [.con (.byt [13,10])])] []],.ret (.met (.con (.byt [])) zW [vr z2])]⟩
noncomputable def f752:FDef:=⟨[zB],[],[.mls zR [],.asg (.nm zN) (ki 0),.whl (.con (.bool true)) [.asg (.nm zA) (.met (vr zB) zA7 [.con (.byt [10]),vr zN]),.ite (.cmp (vr zA) [.Lt] [ki 0]) [.ret (.bin .Add (vr zR) (.lst [.tup [.sli (vr zB) (vr zN) (.con .none),.con (.byt [])]]))] [],.ite (.bop true [.cmp (vr zA) [.Gt] [vr zN],.cmp (.idx (vr zB) (.bin .Sub (vr zA) (ki 1))) [.Eq] [ki 13]]) [.exp (.met (vr zR) zO [.tup [.sli (vr zB) (vr zN) (.bin .Sub (vr zA) (ki 1)),.con (.byt [13,10])]])] [.exp (.met (vr zR) zO [.tup [.sli (vr zB) (vr zN) (vr zA),.con (.byt [10])]])],.asg (.nm zN) (.bin .Add (vr zA) (ki 1))]]⟩
noncomputable def f759:FDef:=⟨[zJ],[],[.mls zAY [],.asg (.nm zA) (ki 0),.whl (.cmp (vr zA) [.Lt] [.cal (kl) [vr zJ]]) [.asg (.nm zD) (.ite (.cmp (.idx (vr zJ) (vr zA)) [.Eq] [ki 61]) (.cal (ko 702) [vr zJ,vr zA]) (.neg (ki 1))),.ite (.cmp (vr zD) [.GtE] [ki 0]) [.exp (.met (vr zAY) zO [vr zD]),.asg (.nm zA) (.bin .Add (vr zA) (ki 3))] [.exp (.met (vr zAY) zO [.idx (vr zJ) (vr zA)]),.asg (.nm zA) (.bin .Add (vr zA) (ki 1))]],.ret (.cal (.con (.typ .bytes)) [vr zAY])]⟩
noncomputable def f766:FDef:=⟨[zB],[],[.mls z2 [],.lop (.tp [.nm zJ,.nm zI]) (.cal (ko 752) [vr zB]) [.asg (.nm zBC) (.met (vr zJ) 125840200460656 [.con (.byt [32,9])]),.ite (.cmp (.sli (vr zBC) (.neg (ki 1)) (.con .none)) [.Eq] [.cal (.con (.typ .bytes)) [.lst [ki 61]]]) [.exp (.met (vr z2) zO [.cal (ko 759) [.sli (vr zBC) (.con .none) (.bin .Sub (.cal (kl) [vr zBC]) (ki 1))]])] [.exp (.met (vr z2) zO [.bin .Add (.cal (ko 759) [vr zBC]) (vr zI)])]],.ret (.met (.con (.byt [])) zW [vr z2])]⟩
noncomputable def f781:FDef:=⟨[zE,zN,z1,zI,zF,zM],[],[.asg (.at (vr zE) zN) (vr zN),.asg (.at (vr zE) z1) (vr z1),.asg (.at (vr zE) zI) (vr zI),.asg (.at (vr zE) zF) (vr zF),.asg (.at (vr zE) zM) (vr zM),.asg (.at (vr zE) zZ) (.cal (ko 798) [vr zF]),.asg (.at (vr zE) zAZ) (.lst []),.asg (.at (vr zE) zA0) (.con .none)]⟩
noncomputable def f798:FDef:=⟨[zF],[],[.asg (.nm zBD) (.cal (ko 323) [vr zF,.con (.str [99,111,110,116,101,110,116,45,116,114,97,110,115,102,101,114,45,101,110,99,111,100,105,110,103])]),.ite (.cmp (vr zBD) [.Is] [.con .none]) [.ret (.con (.str [55,98,105,116]))] [],.asg (.nm zA) (ki 0),.whl (.bop true [.cmp (vr zA) [.Lt] [.cal (kl) [vr zBD]],.cmp (.idx (vr zBD) (vr zA)) [.NotIn] [.con (.byt [32,9,40,59])]]) [.asg (.nm zA) (.bin .Add (vr zA) (ki 1))],.asg (.nm zQ) (.cal (ko 225) [.met (.con (.str [])) zW [.com (.cal (.con (.blt .chr)) [vr zD]) (.nm zD) (.sli (vr zBD) (.con .none) (vr zA)) []]]),.ret (.ite (.cmp (vr zQ) [.Eq] [.con (.str [])]) (.con (.str [55,98,105,116])) (vr zQ))]⟩
noncomputable def f805:FDef:=⟨[zJ,z3],[],[.asg (.nm zAC) (.bin .Add (.con (.byt [45,45])) (vr z3)),.ite (.cmp (.sli (vr zJ) (.con .none) (.cal (kl) [vr zAC])) [.NotEq] [vr zAC]) [.ret (.con (.str []))] [],.asg (.nm zBE) (.met (.sli (vr zJ) (.cal (kl) [vr zAC]) (.con .none)) 125840200460656 [.con (.byt [32,9])]),.ite (.cmp (vr zBE) [.Eq] [.con (.byt [])]) [.ret (.con (.str [110,101,120,116]))] [],.ret (.ite (.cmp (vr zBE) [.Eq] [.con (.byt [45,45])]) (.con (.str [108,97,115,116])) (.con (.str [])))]⟩
noncomputable def f812:FDef:=⟨[zB,zA,zI,z3],[],[.mls zR [],.asg (.nm zAG) (.neg (ki 1)),.asg (.nm 108187649798757) (vr zA),.lop (.tp [.nm z7,.nm zY,.nm zAA]) (.cal (ko 233) [vr zB,vr zA,vr zI]) [.asg (.nm 7823737) (.cal (ko 805) [.sli (vr zB) (vr z7) (vr zY),vr z3]),.ite (.cmp (vr 7823737) [.NotEq] [.con (.str [])]) [.ite (.cmp (vr zAG) [.GtE] [ki 0]) [.exp (.met (vr zR) zO [.tup [vr zAG,.cal (.con (.blt .max)) [vr zAG,vr 108187649798757]]])] [],.ite (.cmp (vr 7823737) [.Eq] [.con (.str [108,97,115,116])]) [.ret (vr zR)] [],.asg (.nm zAG) (vr zAA)] [],.asg (.nm 108187649798757) (vr zY)],.ite (.cmp (vr zAG) [.GtE] [ki 0]) [.exp (.met (vr zR) zO [.tup [vr zAG,vr zI]])] [],.ret (vr zR)]⟩
noncomputable def f817:FDef:=⟨[zB,zH],[],[.asg (.nm zBI) (.met (.atr (.atr (vr zH) zM) zAT) 6776180 [.con (.str [98,111,117,110,100,97,114,121]),.con (.str [])]),.asg (.nm z3) (.cal (.con (.typ .bytes)) [.com (.cal (.con (.blt .ord)) [vr zP]) (.nm zP) (vr zBI) [.cmp (.cal (.con (.blt .ord)) [vr zP]) [.Lt] [ki 256]]]),.mls zR [],.ite (.bop true [.cmp (vr zBI) [.NotEq] [.con (.str [])],.cmp (.cal (kl) [vr z3]) [.Eq] [.cal (kl) [vr zBI]]]) [.asg (.nm zR) (.cal (ko 812) [vr zB,.atr (vr zH) z1,.atr (vr zH) zI,vr z3])] [],.ret (.ite (.cmp (vr zR) [.NotEq] [.lst []]) (vr zR) (.lst [.tup [.atr (vr zH) zI,.atr (vr zH) zI]]))]⟩
noncomputable def f824:FDef:=⟨[zH],[],[.ret (.bop true [.met (.atr (vr zH) zM) zA6 [],.cmp (.atr (vr zH) zZ) [.In] [.con (.tup [.str [55,98,105,116],.str [56,98,105,116],.str [98,105,110,97,114,121]])]])]⟩
noncomputable def f829:FDef:=⟨[zB,zN,zI,z4,1945221601580521190260],[],[.asg (.tp [.nm zF,.nm z1]) (.cal (ko 302) [vr zB,vr zN,vr zI]),.asg (.nm zBL) (.cal (ko 323) [vr zF,.con (.str [99,111,110,116,101,110,116,45,116,121,112,101])]),.asg (.nm zM) (.ite (.bop true [.cmp (vr zBL) [.Is] [.con .none],vr 1945221601580521190260]) (.cal (ko 510) [.con (.str [109,101,115,115,97,103,101]),.con (.str [114,102,99,56,50,50]),.dct [] []]) (.cal (ko 627) [vr zBL])),.asg (.nm zH) (.cal (ko 789) [vr zN,vr z1,vr zI,vr zF,vr zM]),.ite (.bop true [.cmp (vr z4) [.Lt] [ki 20],.met (vr zM) zBM []]) [.asg (.nm zBN) (.cmp (.atr (vr zM) z5) [.Eq] [.con (.str [100,105,103,101,115,116])]),.asg (.at (vr zH) zAZ) (.com (.cal (ko 829) [vr zB,vr 7302757,vr 478694368626,.bin .Add (vr z4) (ki 1),vr zBN]) (.tp [.nm 7302757,.nm 478694368626]) (.cal (ko 817) [vr zB,vr zH]) [])] [.ite (.bop true [.cmp (vr z4) [.Lt] [ki 20],.cal (ko 824) [vr zH]]) [.asg (.at (vr zH) zA0) (.cal (ko 829) [vr zB,vr z1,vr zI,.bin .Add (vr z4) (ki 1),.con (.bool false)])] []],.ret (vr zH)]⟩
noncomputable def f836:FDef:=⟨[zB],[],[.ret (.cal (ko 829) [vr zB,ki 0,.cal (kl) [vr zB],ki 0,.con (.bool false)])]⟩
noncomputable def f843:FDef:=⟨[zZ,zC],[],[.ite (.cmp (vr zZ) [.Eq] [.con (.str [98,97,115,101,54,52])]) [.ret (.cal (ko 70) [vr zC])] [],.ite (.cmp (vr zZ) [.Eq] [.con (.str [113,117,111,116,101,100,45,112,114,105,110,116,97,98,108,101])]) [.ret (.cal (ko 766) [vr zC])] [],.ret (vr zC)]⟩
noncomputable def f850:FDef:=⟨[zB,zH],[],[.ret (.cal (ko 843) [.atr (vr zH) zZ,.sli (vr zB) (.atr (vr zH) z1) (.atr (vr zH) zI)])]⟩
noncomputable def f856:FDef:=⟨[zF],[],[.ret (.cal (.con (.typ .tuple)) [.com (.tup [.met (vr zX) zQ [],.cal (ko 316) [.atr (vr zX) zAB]]) (.nm zX) (vr zF) []])]⟩
noncomputable def f863:FDef:=⟨[zBJ],[],[.ret (.ite (.cmp (.idx (vr zBJ) (ki 0)) [.Eq] [.con (.str [108,101,116,116,101,114])]) (vr zBJ) (.bin .Add (.sli (vr zBJ) (.con .none) (.neg (ki 1))) (.tup [.tup []])))]⟩
noncomputable def f886:FDef:=⟨[zE],[],[.ret (.tup [.con (.str [108,101,97,102]),.met (.atr (vr zE) zM) zAN [],.cal (.con (.typ .bytes)) [.atr (vr zE) zC],.cal (ko 856) [.atr (vr zE) zF]])]⟩
noncomputable def f893:FDef:=⟨[zE],[],[.ret (ki 0)]⟩
noncomputable def f921:FDef:=⟨[zE],[],[.ret (.tup [.con (.str [109,97,110,121]),.atr (vr zE) z5,.cal (.con (.typ .tuple)) [.com (.met (vr zL) zAN []) (.nm zL) (.atr (vr zE) zU) []],.cal (ko 856) [.atr (vr zE) zF]])]⟩
noncomputable def f926:FDef:=⟨[zE],[],[.ret (.bin .Add (ki 1) (.cal (.con (.blt .max)) [.bin .Add (.lst [ki 0]) (.com (.met (vr zL) z4 []) (.nm zL) (.atr (vr zE) zU) [])]))]⟩
noncomputable def f956:FDef:=⟨[zE],[],[.asg (.nm zBE) (.ite (.cal (.con (.blt .isinstance)) [.atr (vr zE) zL,ko 966]) (.tup []) (.cal (.con (.typ .tuple)) [.atr (.atr (vr zE) zL) zF])),.ret (.tup [.con (.str [108,101,116,116,101,114]),.cal (ko 863) [.met (.atr (vr zE) zL) zAN []],.cal (ko 856) [.bin .Add (.cal (.con (.typ .tuple)) [.atr (vr zE) zF]) (vr zBE)]])]⟩
noncomputable def f963:FDef:=⟨[zE],[],[.ret (.bin .Add (ki 1) (.met (.atr (vr zE) zL) z4 []))]⟩
noncomputable def f975:FDef:=⟨[zC],[],[.lop (.nm zA) (.cal (.con (.typ .range)) [.cal (kl) [vr zC]]) [.asg (.nm zD) (.idx (vr zC) (vr zA)),.ite (.bop false [.cmp (vr zD) [.Eq] [ki 0],.cmp (vr zD) [.Gt] [ki 127]]) [.ret (.con (.bool false))] [],.ite (.bop false [.bop true [.cmp (vr zD) [.Eq] [ki 13],.cmp (.sli (vr zC) (.bin .Add (vr zA) (ki 1)) (.bin .Add (vr zA) (ki 2))) [.NotEq] [.con (.byt [10])]],.bop true [.cmp (vr zD) [.Eq] [ki 10],.cmp (.sli (vr zC) (.cal (.con (.blt .max)) [.bin .Sub (vr zA) (ki 1),ki 0]) (vr zA)) [.NotEq] [.con (.byt [13])]]]) [.ret (.con (.bool false))] []],.ret (.cmp (.com (ki 1) (.tp [.nm z7,.nm zY,.nm zAA]) (.cal (ko 233) [vr zC]) [.cmp (.bin .Sub (vr zY) (vr z7)) [.Gt] [ki 998]]) [.Eq] [.lst []])]⟩
noncomputable def f982:FDef:=⟨[zC,zAH],[],[.ite (.cal (ko 975) [vr zC]) [.ret (.con (.str [55,98,105,116]))] [],.ret (.ite (.cmp (.cal (kl) [.cal (ko 63) [vr zC]]) [.Lt] [.cal (kl) [.cal (ko 738) [vr zC,vr zAH]]]) (.con (.str [98,97,115,101,54,52])) (.con (.str [113,117,111,116,101,100,45,112,114,105,110,116,97,98,108,101])))]⟩
noncomputable def f989:FDef:=⟨[zZ,zC,zAH],[],[.ite (.cmp (vr zZ) [.Eq] [.con (.str [98,97,115,101,54,52])]) [.ret (.cal (ko 63) [vr zC])] [],.ret (.ite (.cmp (vr zZ) [.Eq] [.con (.str [113,117,111,116,101,100,45,112,114,105,110,116,97,98,108,101])]) (.cal (ko 738) [vr zC,vr zAH]) (vr zC))]⟩
noncomputable def f994:FDef:=⟨[zC,zAC],[],[.ret (.cmp (.com (ki 1) (.tp [.nm z7,.nm zY,.nm zAA]) (.cal (ko 233) [vr zC]) [.cmp (.sli (vr zC) (vr z7) (.bin .Add (vr z7) (.cal (kl) [vr zAC]))) [.Eq] [vr zAC]]) [.NotEq] [.lst []])]⟩
noncomputable def f999:FDef:=⟨[zA1],[],[.asg (.nm z0) (ki 0),.whl (.con (.bool true)) [.asg (.nm z3) (.bin .Add (.con (.str [61,95,112,97,114,116])) (.cal (.con (.typ .str)) [vr z0])),.asg (.nm zAC) (.bin .Add (.con (.byt [45,45])) (.cal (.con (.typ .bytes)) [.com (.cal (.con (.blt .ord)) [vr zP]) (.nm zP) (vr z3) []])),.ite (.cmp (.com (ki 1) (.nm z1) (vr zA1) [.cal (ko 994) [vr z1,vr zAC]]) [.Eq] [.lst []]) [.ret (vr z3)] [],.asg (.nm z0) (.bin .Add (vr z0) (ki 1))]]⟩
noncomputable def f1006:FDef:=⟨[zF],[],[.ite (.cmp (.cal (kl) [.cal (ko 328) [.cal (.con (.typ .list)) [vr zF],.con (.tup [.str [99,111,110,116,101,110,116,45,116,121,112,101],.str [99,111,110,116,101,110,116,45,116,114,97,110,115,102,101,114,45,101,110,99,111,100,105,110,103],.str [109,105,109,101,45,118,101,114,115,105,111,110]])]]) [.NotEq] [.cal (kl) [vr zF]]) [.bad] []]⟩
noncomputable def f1011:FDef:=⟨[zF,zM,zZ],[],[.exp (.cal (ko 1006) [vr zF]),.mls 7305070 [.cal (ko 263) [.con (.byt [67,111,110,116,101,110,116,45,84,121,112,101]),.bin .Add (.con (.byt [32])) (.cal (ko 681) [vr zM])]],.ite (.cmp (vr zZ) [.NotEq] [.con (.str [55,98,105,116])]) [.exp (.met (vr 7305070) zO [.cal (ko 263) [.con (.byt [67,111,110,116,101,110,116,45,84,114,97,110,115,102,101,114,45,69,110,99,111,100,105,110,103]),.bin .Add (.con (.byt [32])) (.cal (.con (.typ .bytes)) [.com (.cal (.con (.blt .ord)) [vr zP]) (.nm zP) (vr zZ) []])]])] [],.ret (.bin .Add (.cal (ko 340) [.bin .Add (vr 7305070) (.cal (.con (.typ .list)) [vr zF])]) (.con (.byt [13,10])))]⟩
noncomputable def f1018:FDef:=⟨[zBF],[],[.asg (.nm zM) (.atr (vr zBF) zM),.ite (.bop false [.met (vr zM) zBM [],.met (vr zM) zA6 []]) [.bad] [],.asg (.nm zZ) (.cal (ko 982) [.atr (vr zBF) zC,.met (vr zM) zAH []]),.ret (.bin .Add (.cal (ko 1011) [.atr (vr zBF) zF,vr zM,vr zZ]) (.cal (ko 989) [vr zZ,.atr (vr zBF) zC,.met (vr zM) zAH []]))]⟩
noncomputable def f1023:FDef:=⟨[zA1,z3],[],[.asg (.nm zAC) (.bin .Add (.con (.byt [45,45])) (.cal (.con (.typ .bytes)) [.com (.cal (.con (.blt .ord)) [vr zP]) (.nm zP) (vr z3) []])),.ret (.bin .Add (.bin .Add (.bin .Add (.met (.con (.byt [])) zW [.com (.bin .Add (.bin .Add (.bin .Add (vr zAC) (.con (.byt [13,10]))) (vr z1)) (.con (.byt [13,10]))) (.nm z1) (vr zA1) []]) (vr zAC)) (.con (.byt [45,45]))) (.con (.byt [13,10])))]⟩
noncomputable def f1028:FDef:=⟨[zBG],[],[.ite (.cmp (.cal (kl) [.atr (vr zBG) zU]) [.Eq] [ki 0]) [.bad] [],.asc zA1 (.cal (ko 1042) [vr zL]) (.nm zL) (.atr (vr zBG) zU) [],.asg (.nm z3) (.cal (ko 999) [vr zA1]),.asg (.nm zM) (.cal (ko 510) [.con (.str [109,117,108,116,105,112,97,114,116]),.atr (vr zBG) z5,.dct [.con (.str [98,111,117,110,100,97,114,121])] [vr z3]]),.ret (.bin .Add (.cal (ko 1011) [.atr (vr zBG) zF,vr zM,.con (.str [55,98,105,116])]) (.cal (ko 1023) [vr zA1,vr z3]))]⟩
noncomputable def f1035:FDef:=⟨[119183001281906],[],[.ret (.bin .Add (.cal (ko 1011) [.tup [],.cal (ko 510) [.con (.str [109,101,115,115,97,103,101]),.con (.str [114,102,99,56,50,50]),.dct [] []],.con (.str [55,98,105,116])]) (.cal (ko 1049) [.atr (vr 119183001281906) zL,.atr (vr 119183001281906) zF]))]⟩
noncomputable def f1042:FDef:=⟨[zL],[],[.ite (.cal (.con (.blt .isinstance)) [vr zL,ko 929]) [.ret (.cal (ko 1028) [vr zL])] [],.ret (.ite (.cal (.con (.blt .isinstance)) [vr zL,ko 966]) (.cal (ko 1035) [vr zL]) (.cal (ko 1018) [vr zL]))]⟩
noncomputable def f1049:FDef:=⟨[zL,zF],[],[.exp (.cal (ko 1006) [vr zF]),.ret (.bin .Add (.cal (ko 340) [.bin .Add (.cal (.con (.typ .list)) [vr zF]) (.lst [.cal (ko 263) [.con (.byt [77,73,77,69,45,86,101,114,115,105,111,110]),.con (.byt [32,49,46,48])]])]) (.cal (ko 1042) [vr zL]))]⟩
noncomputable def f1056:FDef:=⟨[zL,1836020596],[],[.ite (.cmp (.met (vr zL) z4 []) [.Gt] [vr 1836020596]) [.bad] []]⟩
noncomputable def f1063:FDef:=⟨[zL],[],[.exp (.cal (ko 1056) [vr zL,ki 20]),.ret (.cal (ko 1042) [vr zL])]⟩
noncomputable def f1070:FDef:=⟨[zL,zF],[],[.exp (.cal (ko 1056) [vr zL,ki 20]),.ret (.cal (ko 1049) [vr zL,vr zF])]⟩
noncomputable def f1077:FDef:=⟨[zH],[],[.ret (.cal (ko 856) [.cal (ko 328) [.atr (vr zH) zF,.con (.tup [.str [99,111,110,116,101,110,116,45,116,121,112,101],.str [99,111,110,116,101,110,116,45,116,114,97,110,115,102,101,114,45,101,110,99,111,100,105,110,103],.str [109,105,109,101,45,118,101,114,115,105,111,110]])]])]⟩
noncomputable def f1082:FDef:=⟨[zB,zH],[],[.ite (.cmp (.atr (vr zH) zAZ) [.NotEq] [.lst []]) [.ret (.tup [.con (.str [109,97,110,121]),.atr (.atr (vr zH) zM) z5,.cal (.con (.typ .tuple)) [.com (.cal (ko 1082) [vr zB,vr 7039332]) (.nm 7039332) (.atr (vr zH) zAZ) []],.cal (ko 1077) [vr zH]])] [],.ite (.cmp (.atr (vr zH) zA0) [.IsNot] [.con .none]) [.ret (.cal (ko 1089) [vr zB,.atr (vr zH) zA0])] [],.ret (.tup [.con (.str [108,101,97,102]),.met (.atr (vr zH) zM) zAN [],.cal (.con (.typ .bytes)) [.cal (ko 850) [vr zB,vr zH]],.cal (ko 1077) [vr zH]])]⟩
noncomputable def f1089:FDef:=⟨[zB,zH],[],[.ret (.tup [.con (.str [108,101,116,116,101,114]),.cal (ko 863) [.cal (ko 1082) [vr zB,vr zH]],.cal (ko 1077) [vr zH]])]⟩
noncomputable def f1108:FDef:=⟨[zV,465625246068],[],[.asg (.nm 426903366771) (.idx (vr zV) (ki 0)),.asg (.nm zA) (.idx (vr zV) (ki 1)),.asg (.ix (vr zV) (ki 1)) (.bin .Add (vr zA) (ki 1)),.ret (.bin .Mod (.bin .Add (.idx (vr 426903366771) (.bin .Mod (vr zA) (.cal (kl) [vr 426903366771]))) (.bin .Mult (.bin .FloorDiv (vr zA) (.cal (kl) [vr 426903366771])) (.bin .Add (.bin .Mult (ki 7) (vr zA)) (ki 3)))) (vr 465625246068))]⟩
noncomputable def f1115:FDef:=⟨[zV],[],[.asg (.nm 431415719790) (.cal (ko 1108) [vr zV,ki 5]),.asg (.nm zF) (.idx (.lst [.tup [],.tup [],.tup [],.tup [.cal (ko 263) [.con (.byt [88,45,65]),.con (.byt [32,49,32])]],.tup [.cal (ko 263) [.con (.byt [83,117,98,106,101,99,116]),.con (.byt [32,115,13,10,9,116])],.cal (ko 263) [.con (.byt [120,45,97]),.con (.byt [])]]]) (vr 431415719790)),.ret (.tup [vr zF,.idx (.lst [.tup [],.tup [],.tup [],.tup [.tup [.con (.str [120,45,97]),.con (.byt [49])]],.tup [.tup [.con (.str [115,117,98,106,101,99,116]),.con (.byt [115,9,116])],.tup [.con (.str [120,45,97]),.con (.byt [])]]]) (vr 431415719790)])]⟩
noncomputable def f1122:FDef:=⟨[z6],[],[.ret (.ite (.cmp (.idx (vr z6) (ki 0)) [.Eq] [.con (.str [108,101,116,116,101,114])]) (vr z6) (.bin .Add (.sli (vr z6) (.con .none) (.neg (ki 1))) (.tup [.tup []])))]⟩
noncomputable def f1127:FDef:=⟨[zV,z4],[],[.asg (.nm 1936683636) (.ite (.cmp (vr z4) [.Lt] [ki 2]) (.cal (ko 1108) [vr zV,ki 5]) (ki 0)),.asg (.tp [.nm zF,.nm zBK]) (.cal (ko 1115) [vr zV]),.ite (.cmp (vr 1936683636) [.Eq] [ki 3]) [.asc zAV (.cal (ko 1127) [vr zV,.bin .Add (vr z4) (ki 1)]) (.nm 107) (.cal (.con (.typ .range)) [.bin .Add (ki 1) (.cal (ko 1108) [vr zV,ki 2])]) [],.asg (.nm z5) (.idx (.tup [.con (.str [109,105,120,101,100]),.con (.str [100,105,103,101,115,116]),.con (.str [97,108,116,101,114,110,97,116,105,118,101])]) (.cal (ko 1108) [vr zV,ki 3])),.ret (.tup [.cal (ko 929) [vr z5,.com (.idx (vr 1885432178) (ki 0)) (.nm 1885432178) (vr zAV) [],vr zF],.tup [.con (.str [109,97,110,121]),vr z5,.cal (.con (.typ .tuple)) [.com (.idx (vr 1885432178) (ki 1)) (.nm 1885432178) (vr zAV) []],vr zBK]])] [],.ite (.cmp (vr 1936683636) [.Eq] [ki 4]) [.asg (.tp [.nm zA0,.nm z6]) (.cal (ko 1127) [vr zV,.bin .Add (vr z4) (ki 1)]),.asg (.nm 1836020325) (.ite (.cmp (.idx (vr z6) (ki 0)) [.Eq] [.con (.str [108,101,116,116,101,114])]) (.tup []) (.idx (vr z6) (.neg (ki 1)))),.ret (.tup [.cal (ko 966) [vr zA0,vr zF],.tup [.con (.str [108,101,116,116,101,114]),.cal (ko 1122) [vr z6],.bin .Add (vr zBK) (vr 1836020325)]])] [],.asg (.nm zM) (.idx (.con (.tup [.tup [.str [116,101,120,116],.str [112,108,97,105,110],.tup [.tup [.str [99,104,97,114,115,101,116],.str [117,116,102,45,56]]]],.tup [.str [116,101,120,116],.str [104,116,109,108],.tup []],.tup [.str [97,112,112,108,105,99,97,116,105,111,110],.str [120,45,97],.tup [.tup [.str [110,97,109,101],.str [97,32,98]]]],.tup [.str [105,109,97,103,101],.str [112,110,103],.tup []]])) (.cal (ko 1108) [vr zV,ki 4])),.asg (.nm zC) (.idx (.con (.tup [.byt [],.byt [97,13,10,98],.byt [45,45,61,95,112,97,114,116,48,13,10,120],.byt [0,255],.byt [99,97,102,195,169,32,61,32,13,10],.byt [120,10],.byt [101,110,100,32,13,10],.byt [45,45,61,95,112,97,114,116,49,45,45,13,10,45,45,61,95,112,97,114,116,48,45,45],.byt [97,13,98],.byt [32],.byt [13,10],.byt [67,111,110,116,101,110,116,45,84,121,112,101,58,32,116,101,120,116,47,104,116,109,108,13,10,13,10,46]])) (.cal (ko 1108) [vr zV,ki 12])),.ret (.tup [.cal (ko 896) [.cal (ko 510) [.idx (vr zM) (ki 0),.idx (vr zM) (ki 1),.cal (.con (.typ .dict)) [.idx (vr zM) (ki 2)]],vr zC,vr zF],.tup [.con (.str [108,101,97,102]),vr zM,vr zC,vr zBK]])]⟩
noncomputable def f1132:FDef:=⟨[zB],[],[.lop (.nm zA) (.cal (.con (.typ .range)) [.cal (kl) [vr zB]]) [.ite (.bop false [.not (.cmp (ki 1) [.LtE,.LtE] [.idx (vr zB) (vr zA),ki 127]),.bop true [.cmp (.idx (vr zB) (vr zA)) [.Eq] [ki 13],.cmp (.sli (vr zB) (.bin .Add (vr zA) (ki 1)) (.bin .Add (vr zA) (ki 2))) [.NotEq] [.con (.byt [10])]]]) [.ret (.con (.bool false))] [],.ite (.bop true [.cmp (.idx (vr zB) (vr zA)) [.Eq] [ki 10],.bop false [.cmp (vr zA) [.Eq] [ki 0],.cmp (.idx (vr zB) (.bin .Sub (vr zA) (ki 1))) [.NotEq] [ki 13]]]) [.ret (.con (.bool false))] []],.ret (.cmp (.cal (.con (.blt .max)) [.com (.cal (kl) [vr zJ]) (.nm zJ) (.met (vr zB) 495807392116 [.con (.byt [13,10])]) []]) [.LtE] [ki 78])]⟩
noncomputable def f1137:FDef:=⟨[126870958469236],[],[.mls zV [.bop false [.cal (.con (.typ .list)) [.sli (vr 126870958469236) (.con .none) (ki 40)],.lst [ki 0]],ki 0],.asg (.nm zA6) (.cmp (.cal (ko 1108) [vr zV,ki 2]) [.Eq] [ki 1]),.asg (.tp [.nm zL,.nm z6]) (.cal (ko 1127) [vr zV,ki 0]),.ite (.cmp (.met (vr zL) zAN []) [.NotEq] [vr z6]) [.ret (.con (.bool false))] [],.asg (.nm zB) (.ite (vr zA6) (.cal (ko 1070) [vr zL,.tup [.cal (ko 263) [.con (.byt [70,114,111,109]),.con (.byt [32,97,64,98])]]]) (.cal (ko 1063) [vr zL])),.asg (.nm zH) (.cal (ko 836) [vr zB]),.ite (.not (.cal (ko 1132) [vr zB])) [.ret (.con (.bool false))] [],.ite (vr zA6) [.asg (.nm 1836020325) (.ite (.cmp (.idx (vr z6) (ki 0)) [.Eq] [.con (.str [108,101,116,116,101,114])]) (.tup []) (.idx (vr z6) (.neg (ki 1)))),.ite (.cmp (.cal (ko 1089) [vr zB,vr zH]) [.NotEq] [.tup [.con (.str [108,101,116,116,101,114]),.cal (ko 1122) [vr z6],.bin .Add (.tup [.tup [.con (.str [102,114,111,109]),.con (.byt [97,64,98])]]) (vr 1836020325)]]) [.ret (.con (.bool false))] []] [.ite (.cmp (.cal (ko 1082) [vr zB,vr zH]) [.NotEq] [vr z6]) [.ret (.con (.bool false))] []],.ite (.cal (.con (.blt .isinstance)) [vr zL,ko 929]) [.ite (.cmp (.cal (kl) [.atr (vr zH) zAZ]) [.NotEq] [.cal (kl) [.atr (vr zL) zU]]) [.ret (.con (.bool false))] [],.ret (.cmp (.com (.sli (vr zB) (.atr (vr 7039332) zN) (.atr (vr 7039332) zI)) (.nm 7039332) (.atr (vr zH) zAZ) []) [.Eq] [.com (.cal (ko 1063) [vr 7302757]) (.nm 7302757) (.atr (vr zL) zU) []])] [],.ret (.con (.bool true))]⟩
noncomputable def fnT:List (Nat × FDef):=[(26,f26),(31,f31),(36,f36),(43,f43),(50,f50),(55,f55),(63,f63),(70,f70),(137,f137),(144,f144),(152,f152),(159,f159),(166,f166),(173,f173),(215,f215),(220,f220),(225,f225),(233,f233),(253,f253),(274,f274),(281,f281),(288,f288),(296,f296),(302,f302),(309,f309),(316,f316),(323,f323),(328,f328),(335,f335),(340,f340),(362,f362),(388,f388),(395,f395),(409,f409),(416,f416),(438,f438),(445,f445),(452,f452),(466,f466),(486,f486),(493,f493),(500,f500),(507,f507),(528,f528),(535,f535),(542,f542),(549,f549),(556,f556),(561,f561),(568,f568),(582,f582),(613,f613),(620,f620),(627,f627),(632,f632),(637,f637),(661,f661),(671,f671),(676,f676),(681,f681),(688,f688),(695,f695),(702,f702),(709,f709),(716,f716),(723,f723),(730,f730),(738,f738),(745,f745),(752,f752),(759,f759),(766,f766),(781,f781),(798,f798),(805,f805),(812,f812),(817,f817),(824,f824),(829,f829),(836,f836),(843,f843),(850,f850),(856,f856),(863,f863),(886,f886),(893,f893),(921,f921),(926,f926),(956,f956),(963,f963),(975,f975),(982,f982),(989,f989),(994,f994),(999,f999),(1006,f1006),(1011,f1011),(1018,f1018),(1023,f1023),(1028,f1028),(1035,f1035),(1042,f1042),(1049,f1049),(1056,f1056),(1063,f1063),(1070,f1070),(1077,f1077),(1082,f1082),(1089,f1089),(1108,f1108),(1115,f1115),(1122,f1122),(1127,f1127),(1132,f1132),(1137,f1137)]
noncomputable def gT:List (Nat × C):=[(6872332921116909407,(.str [108,97,119,95,110,111,48,51,57,57,95,48,49])),(26845007757664095,.none),(115298650732169353826230111,.none),(6872338482965208927,.none),(6872324159366848351,(.str [47,99,108,97,105,109,47,99,117,116,46,112,121])),(450384417673801227329375,.none),(410024766572,(.obj 21)),(357711695443,(.byt [65,66,67,68,69,70,71,72,73,74,75,76,77,78,79,80,81,82,83,84,85,86,87,88,89,90,97,98,99,100,101,102,103,104,105,106,107,108,109,110,111,112,113,114,115,116,117,118,119,120,121,122,48,49,50,51,52,53,54,55,56,57,43,47])),(5259588,(.int 61)),(5497010880040488516,(.byt [13,10])),(144388466530623064729873509,(.obj 26)),(125059765250314706813740403,(.obj 31)),(32015299904080578087185904755,(.obj 36)),(34780127400968648196584924516,(.obj 43)),(8029466646163320421,(.obj 50)),(7597114540650554739,(.obj 55)),(28550345997444452,(.obj 63)),(28258975416083812,(.obj 70)),(1483770416298917523314,(.obj 95)),(1612897325751731580020,(.obj 108)),(1427996133175036570740,(.obj 120)),(1129466950,(.byt [13,10])),(6518165744535627534158006678643,(.int 13)),(23926244408802961621460862291,(.int 20)),(74171710402418,(.obj 204)),(512071772150520620213349,(.obj 215)),(465726563698,(.obj 220)),(512071772150520904775796,(.obj 225)),(511960443146927417159283,(.obj 233)),(6915221708991450841952570143347,(.tup [(.int 32),(.int 9)])),(302415965284,(.obj 263)),(30515220352819572,(.obj 274)),(29681726265584997,(.obj 281)),(7165064758018664814,(.obj 288)),(540219918037652980461171,(.obj 296)),(138296299017624839349101683,(.obj 302)),(32210706172440422,(.obj 309)),(8461813378621662564,(.obj 316)),(483626536443738982409337,(.obj 323)),(9460787993805939008023271990387,(.obj 328)),(7598521945700003428,(.obj 335)),(36967031707783814490698310771,(.obj 340)),(280569792841,(.str [117,115,45,97,115,99,105,105])),(327513557326,(.str [105,115,111,45,56,56,53,57,45,49])),(1431586360,(.str [117,116,102,45,56])),(4848196820704515155,(.tup [(.str [117,115,45,97,115,99,105,105]),(.str [105,115,111,45,56,56,53,57,45,49]),(.str [117,116,102,45,56])])),(26400877670793649313265829710,(.str [65533])),(7875892336216557116577142367603,(.obj 348)),(30765204438345926236629462373,(.obj 355)),(34165931398691664535531775348,(.obj 362)),(141994001036904582470923368,(.obj 367)),(141994001036907872516404339,(.obj 374)),(8115756488605422267641690612078,(.obj 381)),(2166656509962651002734,(.obj 388)),(32485515276018036,(.obj 395)),(32762665321326958,(.obj 402)),(139576374290560986825193588,(.obj 409)),(32018879421198954651005057140,(.obj 416)),(7521419706480813934,(.obj 423)),(2054755056639639775598,(.obj 430)),(26307183936488739352821306264924377673331,(.int 20)),(6201255436773563316952485610820,(.tup [(.int 0),(.int 10),(.int 13)])),(7811896410322071140,(.obj 438)),(1944866948585915113844,(.obj 445)),(1834041254055069573492,(.obj 452)),(469569755466324305207668,(.obj 459)),(2057665365470511327277608088204403,(.obj 466)),(27012584800747863630575398259,(.tup [(.int 9),(.int 10),(.int 13),(.int 32)])),(1536073486233158569806,(.int 59)),(5491914566336217068121723334003,(.int 61)),(349323613253,(.int 34)),(18667788718261588,(.int 40)),(5784119865531256404,(.int 37)),(72848321430852,(.byt [40,41,60,62,64,44,59,58,92,34,47,91,93,63,61])),(344016471458371717283743389094593875,(.byt [42,39,37])),(87370132478305045234992467,(.byt [48,49,50,51,52,53,54,55,56,57,65,66,67,68,69,70])),(374891369544,(.int 78)),(1426115298796010294597,(.int 40)),(365085516491787225683027,(.int 1000)),(1380929357,(.int 66)),(1265200740,(.obj 510)),(530904313704211232157284,(.obj 521)),(8354663237929912837948341970021,(.obj 528)),(35720629113542653325475145070,(.obj 535)),(549591584884517067515246,(.obj 542)),(8354663252097520905243123999845,(.obj 549)),(549591584884529952879720,(.obj 556)),(545089860739119985947236,(.obj 561)),(549591584884499652637299,(.obj 568)),(135859872660043707854251378,(.obj 575)),(31632341598170982,(.obj 582)),(1925773082627404887144,(.obj 695)),(138766574997134592859879959628305493363,(.obj 587)),(583594834298035226346117895962256740,(.obj 594)),(120176579837288774361118068,(.obj 599)),(32940099691968420006094599272,(.obj 606)),(2073057118147208769382,(.obj 613)),(139576374290560986674458212,(.obj 620)),(2110234054834447281764,(.obj 627)),(7598521949994313070,(.obj 632)),(7598521932763457902,(.obj 709)),(547531208719360801125720209066388851,(.obj 637)),(583594834298035226346409266543617380,(.obj 644)),(29676228775475059,(.obj 651)),(31391437401218156164602099571,(.obj 656)),(137163190470761269144024947,(.obj 661)),(8751439860295790403896629097587,(.obj 666)),(530702622245599864387443,(.obj 671)),(36967031707783825451672235379,(.obj 676)),(564072139095822448553572,(.obj 681)),(5491914566336217069307085219172,(.int 61)),(284747189835,(.int 32)),(5521730,(.int 9)),(6518165744535627536434256438628,(.int 13)),(92205410620923645605991496,(.int 4)),(4736344,(.byt [48,49,50,51,52,53,54,55,56,57,65,66,67,68,69,70])),(137163190470761268892361829,(.obj 688)),(138766574997134592859879960813667378532,(.obj 695)),(2092944190532856275316,(.obj 702)),(547531208719360801125721394428274020,(.obj 709)),(131061873445610090259506547,(.obj 716)),(545127116752799356839283,(.obj 723)),(549666312831624589239667,(.obj 730)),(2301216473777103493203081476466020,(.obj 738)),(32940099691968419958749029747,(.obj 745)),(511960443146914281714803,(.obj 752)),(8461825499070752100,(.obj 759)),(2301216473777103492911710895105380,(.obj 766)),(102762437251909138096958227579946562675,(.int 20)),(1628634313790542963224165569089095,(.str [55,98,105,116])),(1608670060901417993902149363189587,(.tup [(.str [55,98,105,116]),(.str [56,98,105,116]),(.str [98,105,110,97,114,121])])),(1610582440465792910419,(.byt [32,9,40,59])),(72895280597843,(.byt [32,9])),(1348563572,(.obj 789)),(122622802348512863647133542,(.obj 798)),(30464276281722572772113604985,(.obj 805)),(530702627578317123972723,(.obj 812)),(1981395915707986833011,(.obj 817)),(1925483444816223036786,(.obj 824)),(2110234054834530644596,(.obj 829)),(35403852548513924860407277413,(.obj 836)),(129116991876709,(.obj 843)),(119000766422071035017131123,(.obj 850)),(1426115298795977264709,(.int 998)),(1463583852381135324243,(.tup [(.str [99,111,110,116,101,110,116,45,116,121,112,101]),(.str [99,111,110,116,101,110,116,45,116,114,97,110,115,102,101,114,45,101,110,99,111,100,105,110,103]),(.str [109,105,109,101,45,118,101,114,115,105,111,110])])),(5253611170015670968753976590660,(.str [61,95,112,97,114,116])),(123808153013039440812010596,(.obj 856)),(464589492596004438238053,(.obj 863)),(1281712486,(.obj 896)),(1298230905,(.obj 929)),(1409263145676111884850,(.obj 966)),(32635403253999498233890630004,(.obj 975)),(516155588412108070479412929566961255,(.obj 982)),(127458431122227302071103079,(.obj 989)),(118953596948779560470146661,(.obj 994)),(30464276281722572772112494450,(.obj 999)),(30765223050532531657039963251,(.obj 1006)),(126207040821488417688089715,(.obj 1011)),(131042744244062122462770291,(.obj 1018)),(8432665521143915498470237627763,(.obj 1023)),(132233021774512518001423475,(.obj 1028)),(8588040322593454201667781489779,(.obj 1035)),(422876638324,(.obj 1042)),(33547032510130680509708069989,(.obj 1049)),(120176652541142693128991848,(.obj 1056)),(422876638308,(.obj 1063)),(30792318992869221,(.obj 1070)),(526385795331371874149491,(.obj 1077)),(32776877116452710,(.obj 1082)),(131043095742697970691368293,(.obj 1089)),(450624087419635769435251,(.tup [(.tup [(.str [116,101,120,116]),(.str [112,108,97,105,110]),(.tup [(.tup [(.str [99,104,97,114,115,101,116]),(.str [117,116,102,45,56])])])]),(.tup [(.str [116,101,120,116]),(.str [104,116,109,108]),(.tup [])]),(.tup [(.str [97,112,112,108,105,99,97,116,105,111,110]),(.str [120,45,97]),(.tup [(.tup [(.str [110,97,109,101]),(.str [97,32,98])])])]),(.tup [(.str [105,109,97,103,101]),(.str [112,110,103]),(.tup [])])])),(115359766379431129352860787,(.tup [(.byt []),(.byt [97,13,10,98]),(.byt [45,45,61,95,112,97,114,116,48,13,10,120]),(.byt [0,255]),(.byt [99,97,102,195,169,32,61,32,13,10]),(.byt [120,10]),(.byt [101,110,100,32,13,10]),(.byt [45,45,61,95,112,97,114,116,49,45,45,13,10,45,45,61,95,112,97,114,116,48,45,45]),(.byt [97,13,98]),(.byt [32]),(.byt [13,10]),(.byt [67,111,110,116,101,110,116,45,84,121,112,101,58,32,116,101,120,116,47,104,116,109,108,13,10,13,10,46])])),(1760250341482835370359,(.obj 1108)),(115359766379421259266810995,(.obj 1115)),(1760250341482800706149,(.obj 1122)),(450624087419657243681637,(.obj 1127)),(7560217649441970628261849426286,(.obj 1132)),(7102839,(.obj 1137)),(6872332921116909407,(.str [98,117,105,108,116,105,110,115])),(6514802,(.blt .chr)),(497977453406354454504293,(.blt .isinstance)),(7103854,(.blt .len)),(7168376,(.blt .max)),(7170414,(.blt .min)),(7303780,(.blt .ord)),(126922498794852,(.blt .sorted)),(1315925605,.none),(302282208101,(.bool false)),(1416787301,(.bool true)),(422944466291,(.typ .bytes)),(1684628340,(.typ .dict)),(1818850164,(.typ .list)),(491260897125,(.typ .range)),(7566450,(.typ .str)),(500186508389,(.typ .tuple))]
noncomputable def clT:List (Nat × CDef):=[(204,.mtb 137 [zB,zA,zI]),(263,.rcd [zK,zAB] []),(510,.rcd [zAS,z5,zAT] []),(789,.mtb 781 [zN,z1,zI,zF,zM,zZ,zAZ,zA0]),(896,.rcd [zM,zC,zF] [.tup []]),(929,.rcd [z5,zU,zF] [.tup []]),(966,.rcd [zL,zF] [.tup []])]
noncomputable def meT:List (Nat × List (Nat × Nat)):=[(204,[(zBH,144),(zAP,152),(zA4,159),(126943688291443,166),(1936419184,173)]),(263,[(zQ,253)]),(510,[(zAN,486),(zBM,493),(zA6,500),(zAH,507)]),(896,[(zAN,886),(z4,893)]),(929,[(zAN,921),(z4,926)]),(966,[(zAN,956),(z4,963)])]
noncomputable def tb:Tb:=⟨lk fnT,lk clT,fun c m=>(lk meT c).bind fun l=>lk l m⟩
end Mine
end
section
namespace Mine.Pl
noncomputable def Ev (P:Nat→Prop):Prop:=∃ k,∀ n,k≤n→P n
theorem Ev.up {P:Nat→Prop} (h:Ev fun n=>P (n+1)):Ev P:=by
 obtain ⟨k,h⟩:=h
 refine ⟨k+1,fun n hn=> ?_⟩
 rcases n with _ |n
 ·exact absurd hn (Nat.not_succ_le_zero _)
 ·exact h n (Nat.le_of_succ_le_succ hn)
theorem Ev.m1 {P Q:Nat→Prop} (a:Ev P) (f:∀ n,P n→Q n):Ev Q:=let ⟨k,h⟩:=a;⟨k,fun n hn=>f n (h n hn)⟩
theorem Ev.m2 {P Q R:Nat→Prop} (a:Ev P) (b:Ev Q) (f:∀ n,P n→Q n→R n):Ev R:=
 let ⟨k,h⟩:=a;let ⟨l,g⟩:=b;⟨max k l,fun n hn=>f n (h n (Nat.le_trans (Nat.le_max_left ..) hn)) (g n (Nat.le_trans (Nat.le_max_right ..) hn))⟩
theorem Ev.m3 {P Q R U:Nat→Prop} (a:Ev P) (b:Ev Q) (c:Ev R) (f:∀ n,P n→Q n→R n→U n):Ev U:=
 (a.m2 b fun _ x y=>And.intro x y).m2 c fun n p z=>f n p.1 p.2 z
theorem Ev.m4 {P Q R U W:Nat→Prop} (a:Ev P) (b:Ev Q) (c:Ev R) (d:Ev U) (f:∀ n,P n→Q n→R n→U n→W n):Ev W:=
 (a.m3 b c fun _ x y z=>And.intro x (And.intro y z)).m2 d fun n p z=>f n p.1 p.2.1 p.2.2 z
theorem Ev.a0 {P:Nat→Prop} (h:∀ n,P n):Ev P:=⟨0,fun n _=>h n⟩
noncomputable def EX (e:X) (F:Fm) (H:List O) (v:V) (H':List O):Prop:=Ev fun n=>∀ q:KV,q v H'→(run tb n).ex e F H q
noncomputable def TS (e:X) (F:Fm) (H:List O) (b:Bool) (H':List O):Prop:=Ev fun n=>∀ q:KB,q b H'→(run tb n).ts e F H q
noncomputable def ST (s:S) (F:Fm) (H:List O) (fl:Fl) (F':Fm) (H':List O):Prop:=Ev fun n=>∀ q:KF,q fl F' H'→(run tb n).st s F H q
noncomputable def WH (t:X) (b:List S) (F:Fm) (H:List O) (fl:Fl) (F':Fm) (H':List O):Prop:=Ev fun n=>∀ q:KF,q fl F' H'→(run tb n).whl t b F H q
noncomputable def CA (d:Nat) (f:V) (as:List V) (H:List O) (v:V) (H':List O):Prop:=Ev fun n=>∀ q:KV,q v H'→(run tb n).call d f as H q
noncomputable def EXS (es:List X) (F:Fm) (H:List O) (vs:List V) (H':List O):Prop:=Ev fun n=>∀ q:List V→List O→Prop,q vs H'→exs (run tb n) es F H q
noncomputable def SS (b:List S) (F:Fm) (H:List O) (fl:Fl) (F':Fm) (H':List O):Prop:=Ev fun n=>∀ q:KF,q fl F' H'→sts (run tb n) b F H q
section
variable {F F1 F2:Fm} {H H1:List O} {v:V}
theorem xI {e:X} (h:Ev fun n=>∀ q:KV,q v H1→cU tb (run tb n) e F H q):EX e F H v H1:=h.up
theorem tI {e:X} {b:Bool} (h:Ev fun n=>∀ q:KB,q b H1→fJ (run tb n) e F H q):TS e F H b H1:=h.up
theorem sI {s:S} {fl:Fl} (h:Ev fun n=>∀ q:KF,q fl F1 H1→c4 tb (run tb n) s F H q):ST s F H fl F1 H1:=h.up
theorem wI {t:X} {b:List S} {fl:Fl} (h:Ev fun n=>∀ q:KF,q fl F1 H1→tC (run tb n) t b F H q):WH t b F H fl F1 H1:=h.up
theorem cI {d:Nat} {f:V} {as:List V} (h:Ev fun n=>∀ q:KV,q v H1→pE tb (run tb n) d f as H q):CA d f as H v H1:=h.up
end
section
variable {F F1 F2:Fm} {H H1 H2 H3:List O} {v w u:V} {b:Bool} {fl:Fl}
theorem N1 {p p':Prop} {b:Bool} (h:if b then p else p'):cond b p p':=by
 rcases b with _ |_ <;> exact h
theorem aC {c:C}:EX (.con c) F H (.c c) H:=
 xI (Ev.a0 fun _ _ k=>k)
theorem aB {n:Nat} (h:lk F.vs n=some v):EX (.var n) F H v H:=
 xI (Ev.a0 fun _ _ k=>ooI h k)
theorem aW {op a b'} (h1:EX a F H v H1) (h2:EX b' F H1 w H2) (h:rK H2 op v w=some u):EX (.bin op a b') F H u H2:=
 xI (h1.m2 h2 fun _ h1 h2 _ k=>h1 _ (h2 _ (ooI h k)))
theorem gO {e:X} {i:Int} (h1:EX e F H (.c (.int i)) H1):EX (.neg e) F H (.c (.int (-i))) H1:=
 xI (h1.m1 fun _ h1 _ k=>h1 _ k)
theorem b6 {t a b':X} (h1:TS t F H b H1) (h2:EX (if b then a else b') F H1 v H2):EX (.ite t a b') F H v H2:=
 xI (h1.m2 h2 fun _ h1 h2 q k=>h1 _ (by rcases b with _ |_ <;> exact h2 q k))
theorem aZ {o:X} {a c:Nat} {fs:List (Nat × C)} {x:C} (h1:EX o F H v H1) (hv:view H1 v=some (.ins c fs)) (ho:pB tb c a=true) (hl:lk fs a=some x):EX (.atr o a) F H (.c x) H1:=
 xI (h1.m1 fun _ h1 _ k=>h1 _ (ooI (a:=(c,fs)) (by rw [hv];rfl) (kBI ho (ooI hl k))))
theorem bK {o i:X} {ci oc x:C} (h1:EX o F H v H1) (h2:EX i F H1 (.c ci) H2) (hv:view H2 v=some oc) (h:iX oc ci=some x):EX (.idx o i) F H (.c x) H2:=
 xI (h1.m2 h2 fun _ h1 h2 _ k=>h1 _ (h2 _ (ooI hv (ooI h k))))
theorem dH {o a b':X} {ca cb oc x:C} (h1:EX o F H v H1) (h2:EX a F H1 (.c ca) H2) (h3:EX b' F H2 (.c cb) H3) (hv:view H3 v=some oc) (h:j5 oc ca cb=some x):EX (.sli o a b') F H (.c x) H3:=
 xI (h1.m3 h2 h3 fun _ h1 h2 h3 _ k=>h1 _ (h2 _ (h3 _ (ooI hv (ooI h k)))))
theorem aD:EXS [] F H [] H:=Ev.a0 fun _ _ k=>k
theorem aA {e:X} {es:List X} {vs:List V} (h1:EX e F H v H1) (h2:EXS es F H1 vs H2):EXS (e::es) F H (v::vs) H2:=h1.m2 h2 fun _ h1 h2 _ k=>h1 _ (h2 _ k)
theorem a7 {es:List X} {vs:List V} (h0:few es=true) (h1:EXS es F H vs H1) (h:tB vs=some v):EX (.tup es) F H v H1:=
 xI (h1.m1 fun _ h1 _ k=>h1 _ (ooI h k))
theorem eU {es:List X} {vs:List V} {cs:List C} (h0:few es=true) (h1:EXS es F H vs H1) (h:eO vs=some cs):EX (.lst es) F H (.c (.lst cs)) H1:=
 xI (h1.m1 fun _ h1 _ k=>h1 _ (ooI h k))
theorem aF {f:X} {es:List X} {vs:List V} (h1:EX f F H w H1) (h2:EXS es F H1 vs H2) (h:CA F.d w vs H2 v H3):EX (.cal f es) F H v H3:=
 xI (h1.m3 h2 h fun _ h1 h2 h3 _ k=>h1 _ (h2 _ (h3 _ k)))
end
noncomputable def CH (l:V) (ops:List PySem.CmpOp) (es:List X) (F:Fm) (H:List O) (b:Bool) (H':List O):Prop:=Ev fun n=>∀ q:KB,q b H'→chain (run tb n) ops l es F H q
noncomputable def TSS (a:Bool) (es:List X) (F:Fm) (H:List O) (b:Bool) (H':List O):Prop:=Ev fun n=>∀ q:KB,q b H'→tss (run tb n) a es F H q
noncomputable def AS (t:T) (v:V) (F:Fm) (H:List O) (F':Fm) (H':List O):Prop:=Ev fun n=>∀ q:KA,q F' H'→asg tb (run tb n) t v F H q
noncomputable def LP (t:T) (b:List S) (cs:List C) (F:Fm) (H:List O) (fl:Fl) (F':Fm) (H':List O):Prop:=Ev fun n=>∀ q:KF,q fl F' H'→loop tb (run tb n) t b cs F H q
noncomputable def AL (es:List X) (F:Fm) (H:List O) (b:Bool) (H':List O):Prop:=Ev fun n=>∀ q:KB,q b H'→alls (run tb n) es F H q
noncomputable def CP (e:X) (t:T) (ts:List X) (cs:List C) (F:Fm) (H:List O) (xs:List C) (H':List O):Prop:=Ev fun n=>∀ q:List C→List O→Prop,q xs H'→comp tb (run tb n) e t ts cs F H q
section
variable {F F1 F2 F3:Fm} {H H1 H2 H3:List O} {v w u:V} {b b2:Bool} {fl:Fl}
theorem aJ {op:PySem.CmpOp} {e:X} (h1:EX e F H w H1) (h:jS H1 op v w=some b):CH v [op] [e] F H b H1:=h1.m1 fun _ h1 _ k=>h1 _ (ooI h k)
theorem FZ {op op2:PySem.CmpOp} {ops} {e:X} {es} (h1:EX e F H w H1) (h:jS H1 op v w=some true) (h2:CH w (op2::ops) es F H1 b H2):CH v (op::op2::ops) (e::es) F H b H2:=
 h1.m2 h2 fun _ h1 h2 q k=>h1 _ (ooI h (h2 q k))
theorem mG {a:X} {ops es} (h1:EX a F H v H1) (h2:CH v ops es F H1 b H2):EX (.cmp a ops es) F H (.c (.bool b)) H2:=
 xI (h1.m2 h2 fun _ h1 h2 q k=>h1 _ (h2 _ k))
theorem aK {a:X} {ops es} (h1:EX a F H v H1) (h2:CH v ops es F H1 b H2):TS (.cmp a ops es) F H b H2:=
 tI (h1.m2 h2 fun _ h1 h2 q k=>h1 _ (h2 q k))
theorem wX {e:X} (h1:TS e F H b H1):TS (.not e) F H (!b) H1:=
 tI (h1.m1 fun _ h1 _ k=>h1 _ k)
theorem eG {a:Bool}:TSS a [] F H a H:=Ev.a0 fun _ _ k=>k
theorem b7 {a:Bool} {e:X} {es} (h1:TS e F H a H1) (h2:TSS a es F H1 b H2):TSS a (e::es) F H b H2:=h1.m2 h2 fun _ h1 h2 q k=>h1 _ (by rcases a with _ |_ <;> exact h2 q k)
theorem dY {a:Bool} {e:X} {es} (h1:TS e F H (!a) H1):TSS a (e::es) F H (!a) H1:=h1.m1 fun _ h1 q k=>h1 _ (by rcases a with _ |_ <;> exact k)
theorem dI {a:Bool} {es:List X} (h:TSS a es F H b H1):TS (.bop a es) F H b H1:=
 tI (h.m1 fun _ h1=>h1)
theorem cE {e:X} (hp:fX e=true) (h1:EX e F H v H1) (h:BN H1 v=some b):TS e F H b H1:=
 tI (h1.m1 fun n h1 q k=>(pG hp:fJ (run tb n) e F H q=_) ▸ (h1 _ (ooI h k):tsV (run tb n) e F H q))
theorem JH {m a c:Nat} {fs:List (Nat × C)} (hv:view H1 w=some (.ins c fs)) (hl:lk fs m=none) (hm:tb.me c m=some a):tgV tb w m H1=some (.fn a):=by
 unfold tgV
 rw [hv]
 refine (?_:(match lk fs m with |some _=>none |none=>(tb.me c m).map Tg.fn)=_)
 rw [hl]
 refine (?_:(tb.me c m).map Tg.fn=_)
 rw [hm];rfl
theorem c9 {o:X} {m a c:Nat} {fs:List (Nat × C)} {es:List X} {vs:List V} (h1:EX o F H w H1) (hv:view H1 w=some (.ins c fs)) (hl:lk fs m=none) (hm:tb.me c m=some a) (h2:EXS es F H1 vs H2) (h:CA F.d (.c (.obj a)) (w::vs) H2 v H3):EX (.met o m es) F H v H3:=
 xI (h1.m3 h2 h fun _ h1 h2 h3 _ k=>h1 _ (ooI (JH hv hl hm) (h2 _ (h3 _ k))))
theorem eZ {o:X} {m:Nat} {g:Tg} {es:List X} {vs:List V} (h1:EX o F H w H1) (hg:tgV tb w m H1=some g) (h2:EXS es F H1 vs H2) (h:∀ r (q:KV),q v H3→wW r F.d g w vs H2 q):EX (.met o m es) F H v H3:=
 xI (h1.m2 h2 fun _ h1 h2 q k=>h1 _ (ooI hg (h2 _ (h _ q k))))
theorem F6 {g:Bm} (hg:BO g=false) {d:Nat} {as:List V} {oc x:C} {cs:List C} (h1:view H w=some oc) (h2:as.mapM (view H)=some cs) (h:hG g oc cs=some x) (r:Rec) (q:KV) (k:q (.c x) H):wW r d (.bm g) w as H q:=by
 refine (?_:cond (BO g) _ _)
 rw [hg]
 exact ooI h1 (ooI h2 (ooI h k))
theorem aX {n:Nat}:AS (.nm n) v F H {F with vs:=put n v F.vs} H:=Ev.a0 fun _ _ k=>k
theorem MO {o:X} {a c n:Nat} {fs:List (Nat × C)} {x:C} (h1:EX o F H (.r n) H1) (hn:H1[n]? =some (.ins c fs)) (ok:(jT tb c a && Nat.ble fs.length 30)=true):AS (.at o a) (.c x) F H F (H1.set n (.ins c (put a x fs))):=
 h1.m1 fun _ h1 _ k=>h1 _ (ooI hn (kBI ok k))
theorem JI {o i:X} {n k:Nat} {j:Int} {l:List C} {x:C} (h1:EX o F H (.r n) H1) (h2:EX i F H1 (.c (.int j)) H2) (hn:H2[n]? =some (.lst l)) (hj:ixS j l.length=some k):AS (.ix o i) (.c x) F H F (H2.set n (.lst (l.set k x))):=
 h1.m2 h2 fun _ h1 h2 _ k'=>h1 _ (h2 _ (ooI hn (ooI (a:=.lst (l.set k x)) (show (ixS j l.length).bind _=_ by rw [hj];rfl) k')))
theorem a5:SS [] F H .nx F H:=Ev.a0 fun _ _ k=>k
theorem aH {s:S} {ss:List S} (h1:ST s F H .nx F1 H1) (h2:SS ss F1 H1 fl F2 H2):SS (s::ss) F H fl F2 H2:=h1.m2 h2 fun _ h1 h2 q k=>h1 _ (h2 q k)
theorem aM {s:S} {ss:List S} (h1:ST s F H (.rt v) F1 H1):SS (s::ss) F H (.rt v) F1 H1:=h1.m1 fun _ h1 _ k=>h1 _ k
theorem aL {e:X} (h1:EX e F H v H1):ST (.ret e) F H (.rt v) F H1:=
 sI (h1.m1 fun _ h1 _ k=>h1 _ k)
theorem aG {t:T} {e:X} (h1:EX e F H v H1) (h2:AS t v F H1 F2 H2):ST (.asg t e) F H .nx F2 H2:=
 sI (h1.m2 h2 fun _ h1 h2 _ k=>h1 _ (h2 _ k))
theorem eQ {e:X} (h1:EX e F H (.c .none) H1):ST (.exp e) F H .nx F H1:=
 sI (h1.m1 fun _ h1 _ k=>h1 _ k)
theorem e6 {n:Nat} {es:List X} {vs:List V} {cs:List C} (h0:few es=true) (h1:EXS es F H vs H1) (h:eO vs=some cs):ST (.mls n es) F H .nx {F with vs:=put n (.r H1.length) F.vs} (H1++[.lst cs]):=
 sI (h1.m1 fun _ h1 _ k=>h1 _ (ooI h k))
theorem aQ {t:X} {a b':List S} (h1:TS t F H b H1) (h2:SS (if b then a else b') F H1 fl F2 H2):ST (.ite t a b') F H fl F2 H2:=
 sI (h1.m2 h2 fun _ h1 h2 q k=>h1 _ (by rcases b with _ |_ <;> exact h2 q k))
theorem e7 {t:X} {b:List S} (h:WH t b F H fl F1 H1):ST (.whl t b) F H fl F1 H1:=
 sI (h.m1 fun n h1=>h1)
theorem nM {t:X} {b:List S} (h1:TS t F H false H1):WH t b F H .nx F H1:=
 wI (h1.m1 fun _ h1 _ k=>h1 _ k)
theorem wY {t:X} {b:List S} (h1:TS t F H true H1) (h2:SS b F H1 .nx F2 H2) (h3:WH t b F2 H2 fl F3 H3):WH t b F H fl F3 H3:=
 wI (h1.m3 h2 h3 fun _ h1 h2 h3 q k=>h1 _ (h2 _ (h3 q k)))
theorem wZ {t:X} {b:List S} (h1:TS t F H true H1) (h2:SS b F H1 (.rt v) F2 H2):WH t b F H (.rt v) F2 H2:=
 wI (h1.m2 h2 fun _ h1 h2 _ k=>h1 _ (h2 _ k))
theorem w0 {t:T} {b:List S}:LP t b [] F H .nx F H:=Ev.a0 fun _ _ k=>k
theorem vG {t:T} {b:List S} {c:C} {cs:List C} (h1:AS t (.c c) F H F1 H1) (h2:SS b F1 H1 .nx F2 H2) (h3:LP t b cs F2 H2 fl F3 H3):LP t b (c::cs) F H fl F3 H3:=h1.m3 h2 h3 fun _ h1 h2 h3 q k=>h1 _ (h2 _ (h3 q k))
theorem EP {t:T} {b:List S} {c:C} {cs:List C} (h1:AS t (.c c) F H F1 H1) (h2:SS b F1 H1 (.rt v) F2 H2):LP t b (c::cs) F H (.rt v) F2 H2:=h1.m2 h2 fun _ h1 h2 _ k=>h1 _ (h2 _ k)
theorem nN {t:T} {it:X} {b:List S} {cs:List C} (h1:EX it F H v H1) (h:rL H1 v=some cs) (h2:LP t b cs F H1 fl F2 H2):ST (.lop t it b) F H fl F2 H2:=
 sI (h1.m2 h2 fun _ h1 h2 q k=>h1 _ (ooI h (h2 q k)))
theorem bE:AL [] F H true H:=Ev.a0 fun _ _ k=>k
theorem pH {e:X} {es} (h1:TS e F H true H1) (h2:AL es F H1 b H2):AL (e::es) F H b H2:=h1.m2 h2 fun _ h1 h2 q k=>h1 _ (h2 q k)
theorem tD {e:X} {es} (h1:TS e F H false H1):AL (e::es) F H false H1:=h1.m1 fun _ h1 _ k=>h1 _ k
theorem b8 {e t ts}:CP e t ts [] F H [] H:=Ev.a0 fun _ _ k=>k
theorem BP {e t ts} {c:C} {cs:List C} {xs:List C} (h1:AS t (.c c) F H F1 H1) (h2:AL ts F1 H1 false H2) (h3:CP e t ts cs F1 H2 xs H3):CP e t ts (c::cs) F H xs H3:=h1.m3 h2 h3 fun _ h1 h2 h3 q k=>h1 _ (h2 _ (h3 q k))
theorem dA {e t ts} {c x:C} {cs:List C} {xs:List C} {H4:List O} (h1:AS t (.c c) F H F1 H1) (h2:AL ts F1 H1 true H2) (h3:EX e F1 H2 (.c x) H3) (h4:CP e t ts cs F1 H3 xs H4):CP e t ts (c::cs) F H (x::xs) H4:=
 h1.m4 h2 h3 h4 fun _ h1 h2 h3 h4 _ k=>h1 _ (h2 _ (h3 _ (h4 _ k)))
theorem cK {e t it ts} {x:C} {cs xs:List C} (h1:EX it F H (.c x) H1) (hi:eP x=some cs) (hz:cs.length≤lim) (h2:CP e t ts cs {F with vs:=d6 (dot0::eE t) F.vs} H1 xs H2):EX (.com e t it ts) F H (.c (.lst xs)) H2:=
 xI (h1.m2 h2 fun _ h1 h2 _ k=>h1 _ (ooI hi (kBI (Nat.ble_eq_true_of_le hz) (h2 _ k))))
theorem nO {m:Nat} {e t it ts} {x:C} {cs xs:List C} (h1:EX it F H (.c x) H1) (hi:eP x=some cs) (hz:cs.length≤lim) (h2:CP e t ts cs {F with vs:=d6 (dot0::eE t) F.vs} H1 xs H2):ST (.asc m e t it ts) F H .nx {F with vs:=put m (.c (.lst xs)) F.vs} H2:=
 sI (h1.m2 h2 fun _ h1 h2 _ k=>h1 _ (ooI hi (kBI (Nat.ble_eq_true_of_le hz) (h2 _ k))))
theorem nP {r:Rec} {a d:Nat} {f:FDef} {as:List V} {cs:List C} (hf:tb.fn a=some f) (ha:eO as=some cs) {q:KV}:pE tb r (d+1) (.c (.obj a)) as H q=iB r d f as [] fun v _=>q v H:=by
 refine (?_:eT tb r d a as H q=_)
 unfold eT
 rw [hf]
 refine (?_:j9 r d f as H q=_)
 unfold j9
 rw [ha]
theorem jH {a d:Nat} {f:FDef} {as:List V} {vs:List (Nat × V)} {cs:List C} (hf:tb.fn a=some f) (ha:eO as=some cs) (hb:eL f.ps (f.ds.map .c) as=some vs) (h:SS f.body ⟨d,vs⟩ [] (.rt v) F1 H1) (hv:back 0 H1 v=some w):CA (d+1) (.c (.obj a)) as H w H:=
 cI (h.m1 fun _ h _ k=>(nP hf ha).mpr (ooI hb (h _ (ooI hv k))))
theorem a9 {b:Bt} {d:Nat} {as:List V} {cs:List C} {x:C} (h1:as.mapM (view H)=some cs) (h:iY b cs=some x):CA d (.c (.blt b)) as H (.c x) H:=
 cI (Ev.a0 fun _ _ k=>ooI h1 (ooI h k))
theorem bZ {t:Ty} {d:Nat} {as:List V} {cs:List C} {x:C} (h1:as.mapM (view H)=some cs) (h:iZ t cs=some x):CA d (.c (.typ t)) as H (.c x) H:=
 cI (Ev.a0 fun _ _ k=>ooI h1 (ooI h k))
theorem dP {a d:Nat} {ps:List Nat} {ds:List C} {as:List V} {cs:List C} {fs:List (Nat × C)} (hf:tb.fn a=none) (hc:tb.cl a=some (.rcd ps ds)) (ha:eO as=some cs) (hb:eL ps ds cs=some fs):CA (d+1) (.c (.obj a)) as H (.c (.ins a fs)) H:=
 cI (Ev.a0 fun n q k=>by
  refine (?_:eT tb (run tb n) d a as H q)
  unfold eT
  rw [hf]
  exact ooI hc (ooI ha (ooI hb k)))
end
theorem kA:∀ (cs:List C),eO (cs.map V.c)=some cs
 | []=>rfl
 |c::cs=>by
  refine (?_:(eO (cs.map V.c)).map (c::·)=_)
  rw [kA cs];rfl
noncomputable def CL (n k a:Nat) (cs:List C) (w:C):Prop:=∀ m e (q:KV),(run tb (m+n)).call (e+k) (.c (.obj a)) (cs.map V.c) [] q=q (.c w) []
theorem bA {n a k:Nat} {f:FDef} {cs:List C} {w:C} (hf:tb.fn a=some f) (h:CL n k a cs w) {H:List O} {d:Nat} (hd:k≤d):CA d (.c (.obj a)) (cs.map .c) H (.c w) H:=
 ⟨n,fun m hm q hq=>by
  have h':=(h (m - n) (d - k) fun v _=>q v H).mpr hq
  rw [Nat.sub_add_cancel hm,Nat.sub_add_cancel hd] at h'
  rcases m with _ |m
  ·exact h'.elim
  ·rcases d with _ |d
   ·exact (h':False).elim
   ·exact (nP hf (kA cs)).mpr ((nP (r:=run tb m) (H:=[]) (q:=fun v _=>q v H) hf (kA cs)).mp h')⟩
theorem nQ {D:List Nat} {i:Int} {j c:Nat} (hl:okL D=true) (hi:i=(j:Nat)) (h:D[j]? =some c):iX (.byt D) (.int i)=some (.int c):=by
 subst hi
 have h1:ix? (j:Int) D.length=some j:=(if_pos (Int.natCast_nonneg j)).trans (if_pos (Int.ofNat_lt.mpr (List.getElem?_eq_some_iff.mp h).1))
 have h2:at? D (j:Int)=some c:=(if_pos hl).trans (by rw [h1];exact h)
 exact congrArg (Option.bind · _) h2
theorem JJ {n m:Nat} (h:n≠m):Nat.beq n m=false:=by
 rcases q:Nat.beq n m with _ |_
 ·rfl
 ·exact absurd (Nat.eq_of_beq_eq_true q) h
theorem lk_t {α:Type} {n:Nat} {v:α} {l:List (Nat × α)}:lk ((n,v)::l) n=some v:=by
 refine (?_:(match Nat.beq n n with |true=>some v |false=>lk l n)=_)
 rw [Nat.beq_refl]
theorem vH {α:Type} {p:Nat × α} {l:List (Nat × α)} {m:Nat} (h:p.1≠m):lk (p::l) m=lk l m:=by
 refine (?_:(match Nat.beq p.1 m with |true=>some p.2 |false=>lk l m)=_)
 rw [JJ h]
theorem EQ {α:Type} {n:Nat} {v:α} {p:Nat × α} {l:List (Nat × α)} (h:p.1=n):put n v (p::l)=(n,v)::l:=by
 refine (?_:(match Nat.beq p.1 n with |true=>(n,v)::l |false=>p::put n v l)=_)
 rw [h,Nat.beq_refl]
theorem ER {α:Type} {n:Nat} {v:α} {p:Nat × α} {l:List (Nat × α)} (h:p.1≠n):put n v (p::l)=p::put n v l:=by
 refine (?_:(match Nat.beq p.1 n with |true=>(n,v)::l |false=>p::put n v l)=_)
 rw [JJ h]
theorem lkp_eq {α:Type} {n:Nat} {v:α}:∀ {l:List (Nat × α)},lk (put n v l) n=some v
 | []=>lk_t
 |p::l=>by
  by_cases h:p.1=n
  ·rw [EQ h];exact lk_t
  ·rw [ER h,vH h];exact lkp_eq
theorem ES {α:Type} {n m:Nat} (ne:n≠m) {v:α}:∀ {l:List (Nat × α)},lk (put n v l) m=lk l m
 | []=>vH ne
 |p::l=>by
  by_cases h:p.1=n
  ·rw [EQ h,vH ne,vH fun e=>ne (h.symm.trans e)]
  ·rw [ER h]
   by_cases h':p.1=m
   ·subst h';exact lk_t.trans lk_t.symm
   ·rw [vH h',vH h'];exact ES ne
theorem aE {α:Type} {n m:Nat} {v:α} {l:List (Nat × α)} {r} (h:Nat.beq n m=false) (k:lk l m=r):lk (put n v l) m=r:=(ES fun e=>by rw [e,Nat.beq_refl] at h;exact Bool.noConfusion h).trans k
noncomputable def txt:List (List Nat)→List Nat
 | []=>[]
 | [x]=>x
 |x::y::l=>x++13::10::txt (y::l)
noncomputable def spn (a b c:Nat):C:=.tup [.int a,.int b,.int c]
noncomputable def bJ (o:Nat):List (List Nat)→List C
 | []=>[]
 | [x]=>match x with
  | []=>[]
  |_::_=>[spn o (o+x.length) (o+x.length)]
 |x::y::l=>spn o (o+x.length) (o+x.length+2)::bJ (o+x.length+2) (y::l)
theorem eV {c:Nat}:∀ (x rest:List Nat) (o:Nat),c∉x→cZ c (x++rest) o=cZ c rest (o+x.length)
 | [],rest,o,h=>rfl
 |y::x,rest,o,h=>by
  simp only [List.mem_cons,not_or] at h
  have:Nat.beq y c=false:=by
   cases q:Nat.beq y c with
   |false=>rfl
   |true=>exact absurd (Nat.eq_of_beq_eq_true q).symm h.1
  simp only [List.cons_append,cZ,this]
  rw [eV x rest (o+1) h.2,List.length_cons]
  congr 1;lia
theorem pI {c:Nat} (x:List Nat) (o:Nat) (h:c∉x):cZ c x o=none:=by
 have:=eV x [] o h
 rw [List.append_nil] at this
 rw [this];rfl
theorem w3 {pre mid post:List Nat} {lo hi:Nat} (h1:lo=pre.length) (h2:hi=lo+mid.length):((pre++mid++post).take hi).drop lo=mid:=by
 subst h1;subst h2
 rw [List.append_assoc,List.take_append,List.drop_append]
 simp
theorem kD {n k:Nat} (h:k≤n):clip n (k:Int)=k:=by
 unfold clip
 rw [if_neg (by lia)]
 simp [Nat.min_eq_left h]
noncomputable abbrev aY:Nat:=zB
noncomputable abbrev bR:Nat:=zAA
noncomputable abbrev dZ:Nat:=zR
noncomputable abbrev eM:Nat:=zN
noncomputable def whT (s:S):X:=match s with | .whl t _=>t |_=>.bad
noncomputable def whB (s:S):List S:=match s with | .whl _ b=>b |_=>[]
noncomputable def lsW:S:=(f233.body[3]?).getD .bad
theorem jV {o a b':X} {F:Fm} {H H1 H2 H3:List O} {D:List Nat} {c lo hi:Nat} {i:Int} (k0:EX o F H (.c (.byt D)) H1) (ka:EX a F H1 (.c (.int (lo:Nat))) H2) (kb:EX b' F H2 (.c (.int (hi:Nat))) H3) (hz:D.length≤1000000) (h1:lo≤D.length) (h2:hi≤D.length)
  (h:(match cZ c ((D.take hi).drop lo) lo with |some i=>(i:Int) |none=> -1)=i):EX (.met o cB [.con (.byt [c]),a,b']) F H (.c (.int i)) H3:=by
 have e:hG .bfind (.byt D) [.byt [c],.int (lo:Nat),.int (hi:Nat)]=some (.int i):=by
  have ok:okL D=true:=Nat.ble_eq_true_of_le hz
  refine (if_pos ok).trans ?_
  show some (C.int (fW D c (clip D.length (lo:Nat)) (clip D.length (hi:Nat))))=_
  rw [kD h1,kD h2,← h]
  rfl
 exact eZ k0 (g:=.bm .bfind) rfl (aA aC (aA ka (aA kb aD))) (F6 rfl rfl rfl e)
theorem mH {o e:X} {F:Fm} {H H1 H2:List O} {n:Nat} {l l1:List C} {x:C} (ko:EX o F H (.r n) H1) (h1:H1[n]? =some (.lst l1)) (ke:EX e F H1 (.c x) H2) (hn:H2[n]? =some (.lst l)) (hz:l.length < lim):EX (.met o c6 [e]) F H (.c .none) (H2.set n (.lst (l++[x]))):=by
 refine eZ ko (g:=.bm .lappend) ?_ (aA ke aD) fun r q k=>ooI hn (ooI (a:=l) rfl (ooI (a:=V.c x) rfl (ooI (a:=l++[x]) (if_pos hz) k)))
 refine (?_:((H1[n]?).map face).bind _=_)
 rw [h1];rfl
theorem jW {H:List O} {n:Nat} {o o':O} (h:H[n]? =some o):(H.set n o')[n]? =some o':=by
 have:n < H.length:=(List.getElem?_eq_some_iff.mp h).1
 simp [this]
theorem tF {D:List Nat} (hz:D.length≤1000000) {n:Nat} {post:List Nat}:∀ (ls:List (List Nat)) (pre:List Nat) (F:Fm) (H:List O) (acc:List C),(∀ x∈ls,10∉x)→D=pre++txt ls++post→acc.length+ls.length≤500000→
  lk F.vs aY=some (.c (.byt D))→lk F.vs bR=some (.c (.int ((pre.length+(txt ls).length:Nat):Int)))→lk F.vs dZ=some (.r n)→lk F.vs eM=some (.c (.int (pre.length:Nat)))→H[n]? =some (.lst acc)→
  ∃ fl F' H',WH (whT lsW) (whB lsW) F H fl F' H'∧(fl= .rt (.r n)∨(fl= .nx∧lk F'.vs dZ=some (.r n)))∧H'[n]? =some (.lst (acc++bJ pre.length ls))∧F'.d=F.d:=by
 intro ls
 induction ls with
 |nil=>
  intro pre F H acc hl hD hacc k1 k2 k3 k4 hn
  refine ⟨.nx,F,H,nM ?_,.inr ⟨rfl,k3⟩,by rw [hn,bJ,List.append_nil],rfl⟩
  refine aK (aB k4) (aJ (aB k2) ?_)
  show some (decide ((pre.length:Int) < ((pre.length+(txt []).length:Nat):Int)))=some false
  simp [txt]
 |cons x ls ih=>
  intro pre F H acc hl hD hacc k1 k2 k3 k4 hn
  have hx:10∉x:=hl x (by simp)
  have hlim:lim=1000000:=rfl
  cases ls with
  |nil=>
   cases x with
   |nil=>
    refine ⟨.nx,F,H,nM ?_,.inr ⟨rfl,k3⟩,by rw [hn,bJ,List.append_nil],rfl⟩
    refine aK (aB k4) (aJ (aB k2) ?_)
    show some (decide ((pre.length:Int) < ((pre.length+(txt [[]]).length:Nat):Int)))=some false
    simp [txt]
   |cons y x=>
    have hwin:(D.take (pre.length+(txt [y::x]).length)).drop pre.length=y::x:=by rw [hD];exact w3 rfl rfl
    have hle:pre.length+(txt [y::x]).length≤D.length:=by rw [hD];simp [txt]
    have t1:TS (whT lsW) F H true H:=by
     refine aK (aB k4) (aJ (aB k2) ?_)
     show some (decide ((pre.length:Int) < ((pre.length+(txt [y::x]).length:Nat):Int)))=some true
     refine congrArg some (decide_eq_true ?_)
     have:(txt [y::x]).length=x.length+1:=rfl
     lia
    have b1:SS (whB lsW) F H (.rt (.r n)) ⟨F.d,put zAQ (.c (.int (-1))) F.vs⟩ (H.set n (.lst (acc++[spn pre.length (pre.length+(txt [y::x]).length) (pre.length+(txt [y::x]).length)]))):=by
     refine aH (aG (jV (aB k1) (aB k4) (aB k2) hz (by lia) hle (i:= -1) ?_) aX) ?_
     ·rw [hwin,pI _ _ hx]
     ·refine aM (aQ (b:=true) (aK (aB lkp_eq) (aJ aC rfl)) ?_)
      refine aH (eQ (mH (aB (aE rfl k3)) hn (a7 rfl (aA (aB (aE rfl k4)) (aA (aB (aE rfl k2)) (aA (aB (aE rfl k2)) aD))) rfl) hn (by simp at hacc;lia))) ?_
      exact aM (aL (aB (aE rfl k3)))
    exact ⟨_,_,_,wZ t1 b1,.inl rfl,by rw [jW hn];rfl,rfl⟩
  |cons y ls=>
   have ht:txt (x::y::ls)=x++13::10::txt (y::ls):=rfl
   have hlen:(txt (x::y::ls)).length=x.length+2+(txt (y::ls)).length:=by rw [ht];simp;lia
   have hwin:(D.take (pre.length+(txt (x::y::ls)).length)).drop pre.length=x++13::10::txt (y::ls):=by rw [hD,← ht];exact w3 rfl rfl
   have hle:pre.length+(txt (x::y::ls)).length≤D.length:=by rw [hD];simp only [List.length_append];lia
   have t1:TS (whT lsW) F H true H:=by
    refine aK (aB k4) (aJ (aB k2) ?_)
    show some (decide ((pre.length:Int) < ((pre.length+(txt (x::y::ls)).length:Nat):Int)))=some true
    refine congrArg some (decide_eq_true ?_)
    lia
   have h13:D[pre.length+x.length]? =some 13:=by
    rw [hD,ht,List.append_assoc,List.getElem?_append_right (by lia),Nat.add_sub_cancel_left,List.append_assoc,List.getElem?_append_right (Nat.le_refl _)]
    simp
   have okD:okL D=true:=Nat.ble_eq_true_of_le hz
   let fd:Int:=((pre.length+x.length+1:Nat):Int)
   have b1:SS (whB lsW) F H .nx ⟨F.d,put eM (.c (.int (fd+1))) (put zY (.c (.int (fd - 1))) (put zAQ (.c (.int fd)) F.vs))⟩ (H.set n (.lst (acc++[.tup [.int (pre.length:Nat),.int (fd - 1),.int (fd+1)]]))):=by
    refine aH (aG (jV (aB k1) (aB k4) (aB k2) hz (by lia) hle (i:=fd) ?_) aX) ?_
    ·rw [hwin,eV _ _ _ hx]
     simp only [cZ]
     rfl
    refine aH (aQ (b:=false) (aK (aB lkp_eq) (aJ aC ?_)) a5) ?_
    ·show some (decide (fd < 0))=some false
     refine congrArg some (decide_eq_false ?_)
     lia
    refine aH (aG (b6 (b:=true) (dI (b7 (aK (aB lkp_eq) (aJ (aB (aE rfl k4)) ?_)) (b7 (aK (bK (x:=.int 13) (aB (aE rfl k1)) (aW (aB lkp_eq) aC rfl) rfl ?_) (aJ aC rfl)) eG))) (aW (aB lkp_eq) aC rfl)) aX) ?_
    ·show some (decide ((pre.length:Int) < fd))=some true
     refine congrArg some (decide_eq_true ?_)
     lia
    ·exact nQ okD (by lia) h13
    refine aH (eQ (mH (aB (aE rfl (aE rfl k3))) hn (a7 rfl (aA (aB (aE rfl (aE rfl k4))) (aA (aB lkp_eq) (aA (aW (aB (aE rfl lkp_eq)) aC rfl) aD))) rfl) hn ?_)) ?_
    ·have:=hacc;simp only [List.length_cons] at this;lia
    exact aH (aG (aW (aB (aE rfl lkp_eq)) aC rfl) aX) a5
   have e1:fd - 1=((pre.length+x.length:Nat):Int):=by lia
   have e2:fd+1=((pre.length+x.length+2:Nat):Int):=by lia
   rw [e1,e2] at b1
   have hpl:(pre++x++[13,10]).length=pre.length+x.length+2:=by simp;lia
   obtain ⟨fl,F',H',hw,hf,hr,hd⟩:=ih (pre++x++[13,10]) ⟨F.d,put eM (.c (.int ((pre.length+x.length+2:Nat):Int))) (put zY (.c (.int ((pre.length+x.length:Nat):Int))) (put zAQ (.c (.int fd)) F.vs))⟩ (H.set n (.lst (acc++[spn pre.length (pre.length+x.length) (pre.length+x.length+2)]))) (acc++[spn pre.length (pre.length+x.length) (pre.length+x.length+2)]) (fun z hz=>hl z (List.mem_cons_of_mem _ hz)) (by rw [hD,ht];simp) (by simp only [List.length_append,List.length_cons,List.length_nil] at hacc ⊢;lia)
    (aE (n:=eM) rfl (aE rfl (aE rfl k1))) (by rw [hpl];refine aE (n:=eM) rfl (aE rfl (aE rfl ?_));rw [k2];congr 3;lia) (aE (n:=eM) rfl (aE rfl (aE rfl k3))) (by rw [hpl];exact lkp_eq) (jW hn)
   refine ⟨fl,F',H',wY t1 b1 hw,hf,?_,hd⟩
   rw [hr,hpl,List.append_assoc]
   rfl
noncomputable abbrev nat (n:Nat):C:=.int (n:Int)
theorem dR:∀ ls:List (List Nat),ls.length≤(txt ls).length+1
 | []=>by simp
 | [x]=>by simp
 |x::y::l=>by
  have:=dR (y::l)
  simp only [txt,List.length_append,List.length_cons] at this ⊢
  lia
theorem l7 {D pre post:List Nat} {ls:List (List Nat)} (hz:D.length≤400000) (hD:D=pre++txt ls++post) (hl:∀ x∈ls,10∉x) {d:Nat} {H:List O} {hi:Nat} (hhi:hi=pre.length+(txt ls).length):
  CA (d+1) (.c (.obj 233)) [.c (.byt D),.c (nat pre.length),.c (nat hi)] H (.c (.lst (bJ pre.length ls))) H:=by
 have hle:pre.length+(txt ls).length≤D.length:=by rw [hD];simp only [List.length_append];lia
 have hls:=dR ls
 have ok:okL D=true:=Nat.ble_eq_true_of_le (by show D.length≤1000000;lia)
 let F1:Fm:=⟨d,[(aY,.c (.byt D)),(zA,.c (nat pre.length)),(zI,.c (nat hi)),(bR,.c (nat hi)),(dZ,.r 0),(eM,.c (nat pre.length))]⟩
 have h1:ST f233.body[0] ⟨d,[(aY,.c (.byt D)),(zA,.c (nat pre.length)),(zI,.c (nat hi))]⟩ [] .nx ⟨d,[(aY,.c (.byt D)),(zA,.c (nat pre.length)),(zI,.c (nat hi)),(bR,.c (nat hi))]⟩ []:=by
  refine (aG (v:=.c (nat hi)) (b6 (b:=false) (aK (aB rfl) (aJ aC ?_)) ?_) aX)
  ·show some (decide ((hi:Int) < 0))=some false
   exact congrArg some (decide_eq_false (by lia))
  ·refine aF aC (aA (aB rfl) (aA (aF aC (aA (aB rfl) aD) (a9 (cs:=[.byt D]) (x:=nat D.length) rfl ?_)) aD)) (a9 (cs:=[nat hi,nat D.length]) rfl ?_)
   ·exact if_pos ok
   ·show some (C.int (if (D.length:Int) < (hi:Int) then _ else _))=_
    rw [if_neg (by lia)]
 obtain ⟨fl,F',H',hw,hf,hr,hd⟩:=tF (D:=D) (by lia) (n:=0) (post:=post) ls pre F1 [.lst []] [] hl hD (by simp;lia) rfl (by rw [← hhi];rfl) rfl rfl rfl
 rw [List.nil_append] at hr
 have hb:back 0 H' (.r 0)=some (.c (.lst (bJ pre.length ls))):=by
  show (view H' (.r 0)).map V.c=_
  simp only [view,hr];rfl
 rcases hf with rfl | ⟨rfl,kf⟩
 ·exact jH (f:=f233) rfl rfl rfl (aH h1 (aH (e6 rfl aD rfl) (aH (aG (aB rfl) aX) (aM (e7 hw))))) hb
 ·exact jH (f:=f233) rfl rfl rfl (aH h1 (aH (e6 rfl aD rfl) (aH (aG (aB rfl) aX) (aH (e7 hw) (aM (aL (aB kf))))))) hb
theorem pJ {ls:List (List Nat)} (hz:(txt ls).length≤400000) (hl:∀ x∈ls,10∉x) {d:Nat} {H:List O}:CA (d+1) (.c (.obj 233)) [.c (.byt (txt ls))] H (.c (.lst (bJ 0 ls))) H:=by
 have hls:=dR ls
 have ok:okL (txt ls)=true:=Nat.ble_eq_true_of_le (by show (txt ls).length≤1000000;lia)
 let F1:Fm:=⟨d,[(aY,.c (.byt (txt ls))),(zA,.c (nat 0)),(zI,.c (.int (-1))),(bR,.c (nat (txt ls).length)),(dZ,.r 0),(eM,.c (nat 0))]⟩
 have h1:ST f233.body[0] ⟨d,[(aY,.c (.byt (txt ls))),(zA,.c (nat 0)),(zI,.c (.int (-1)))]⟩ [] .nx ⟨d,[(aY,.c (.byt (txt ls))),(zA,.c (nat 0)),(zI,.c (.int (-1))),(bR,.c (nat (txt ls).length))]⟩ []:=by
  refine (aG (v:=.c (nat (txt ls).length)) (b6 (b:=true) (aK (aB rfl) (aJ aC rfl)) ?_) aX)
  refine aF aC (aA (aB rfl) aD) (a9 (cs:=[.byt (txt ls)]) rfl ?_)
  exact if_pos ok
 obtain ⟨fl,F',H',hw,hf,hr,hd⟩:=tF (D:=txt ls) (by lia) (n:=0) (post:=[]) ls [] F1 [.lst []] [] hl (by simp) (by simp;lia) rfl (by simp [F1,lk]) rfl rfl rfl
 rw [List.nil_append] at hr
 have hb:back 0 H' (.r 0)=some (.c (.lst (bJ 0 ls))):=by
  show (view H' (.r 0)).map V.c=_
  have:H'[0]? =some (.lst (bJ 0 ls)):=hr
  simp only [view,this];rfl
 rcases hf with rfl | ⟨rfl,kf⟩
 ·exact jH (f:=f233) rfl rfl rfl (aH h1 (aH (e6 rfl aD rfl) (aH (aG (aB rfl) aX) (aM (e7 hw))))) hb
 ·exact jH (f:=f233) rfl rfl rfl (aH h1 (aH (e6 rfl aD rfl) (aH (aG (aB rfl) aX) (aH (e7 hw) (aM (aL (aB kf))))))) hb
theorem aP {a d:Nat} {f:FDef} {as:List V} {vs:List (Nat × V)} {cs:List C} {y:C} {F1:Fm} {H H1:List O} (hf:tb.fn a=some f) (ha:eO as=some cs) (hb:eL f.ps (f.ds.map .c) as=some vs) (h:SS f.body ⟨d,vs⟩ [] (.rt (.c y)) F1 H1):CA (d+1) (.c (.obj a)) as H (.c y) H:=jH hf ha hb h rfl
theorem hH {D pre x post:List Nat} (hz:D.length≤1000000) (hD:D=pre++x++13::10::post) (hx:10∉x) {hi:Nat} (h1:pre.length+x.length+2≤hi) (h2:hi≤D.length) {d:Nat} {H:List O}:
    CA (d+1) (.c (.obj 274)) [.c (.byt D),.c (nat pre.length),.c (nat hi)] H (.c (.tup [nat (pre.length+x.length),nat (pre.length+x.length+2)])) H:=by
  have okD:okL D=true:=Nat.ble_eq_true_of_le hz
  have hfind:(match cZ 10 ((D.take hi).drop pre.length) pre.length with |some i=>(i:Int) |none=> -1)=((pre.length+x.length+1:Nat):Int):=by
    have e:(D.take hi).drop pre.length=x++13::10::post.take (hi - (pre.length+x.length+2)):=by
      rw [hD,List.append_assoc,List.take_append,List.drop_append,List.take_of_length_le (by lia)]
      simp only [List.drop_length,Nat.sub_self,List.drop_zero,List.nil_append]
      rw [List.take_append,List.take_of_length_le (by lia)]
      congr 1
      rw [show hi - pre.length - x.length=(hi - (pre.length+x.length+2))+2 by lia]
      rfl
    rw [e,eV _ _ _ hx]
    simp [cZ]
  have h13:D[pre.length+x.length]? =some 13:=by
    rw [hD,List.append_assoc,List.getElem?_append_right (by lia),Nat.add_sub_cancel_left,List.getElem?_append_right (Nat.le_refl _)]
    simp
  let fd:Int:=((pre.length+x.length+1:Nat):Int)
  have e1:fd - 1=((pre.length+x.length:Nat):Int):=by lia
  have e2:fd+1=((pre.length+x.length+2:Nat):Int):=by lia
  have hlen:D.length=pre.length+x.length+(post.length+2):=by rw [hD];simp;lia
  have key:CA (d+1) (.c (.obj 274)) [.c (.byt D),.c (nat pre.length),.c (nat hi)] H (.c (.tup [.int (fd - 1),.int (fd+1)])) H:=by
   refine aP (F1:=⟨d,[(zB,.c (.byt D)),(zA,.c (nat pre.length)),(zI,.c (nat hi)),(zT,.c (.int fd))]⟩) (H1:=[]) (f:=f274) rfl rfl rfl ?_
   refine aH (aG (jV (aB rfl) (aB rfl) (aB rfl) hz (by lia) h2 (i:=fd) hfind) aX) ?_
   refine aH (aQ (b:=false) (aK (aB rfl) (aJ aC ?_)) a5) ?_
   · exact congrArg some (decide_eq_false (by lia))
   refine aM (aQ (b:=true) (dI (b7 (aK (aB rfl) (aJ (aB rfl) ?_)) (b7 (aK (bK (x:=.int 13) (aB rfl) (aW (aB rfl) aC rfl) rfl ?_) (aJ aC rfl)) eG))) ?_)
   · exact congrArg some (decide_eq_true (by show (pre.length:Int) < fd;lia))
   · exact nQ okD e1 h13
   · exact aM (aL (a7 rfl (aA (aW (aB rfl) aC rfl) (aA (aW (aB rfl) aC rfl) aD)) rfl))
  rwa [e1,e2] at key
noncomputable def aR (mark x:List Nat):Bool:=x.take mark.length == mark
theorem rO {mark x rest:List Nat} (h:13∉mark):((x++13::rest).take mark.length == mark)=aR mark x:=by
 unfold aR
 by_cases q:mark.length≤x.length
 ·rw [List.take_append_of_le_length q]
 ·have h1:(x++13::rest).take mark.length≠mark:=by
   intro e
   have:13∈(x++13::rest).take mark.length:=by
    rw [List.take_append,List.take_of_length_le (by lia)]
    refine List.mem_append_right _ ?_
    cases hh:mark.length - x.length with
    |zero=>lia
    |succ k=>simp
   rw [e] at this
   exact h this
  have h2:x.take mark.length≠mark:=by
   intro e
   have:=congrArg List.length e
   rw [List.length_take] at this
   lia
  rw [beq_eq_false_iff_ne.mpr h1,beq_eq_false_iff_ne.mpr h2]
noncomputable def blT:X:=.cmp (.sli (.var zC) (.var z7) (.bin .Add (.var z7) (.cal (.con (.blt .len)) [(.var zAC)]))) [.Eq] [(.var zAC)]
noncomputable def blP:T:=.tp [(.nm z7),(.nm zY),(.nm zAA)]
theorem tp3 {a b c:Nat} {x y z:C} {F:Fm} {H:List O}:AS (.tp [.nm a,.nm b,.nm c]) (.c (.tup [x,y,z])) F H ⟨F.d,put c (.c z) (put b (.c y) (put a (.c x) F.vs))⟩ H:=Ev.a0 fun _ _ k=>k
theorem jX {D:List Nat} {o m:Nat} (ho:o≤D.length):cut D (nat o) (.int ((o:Int)+(m:Int)))=some ((D.drop o).take m):=by
 refine (?_:some ((D.drop (clip D.length o)).take (clip D.length ((o:Int)+(m:Int)) - clip D.length o))=_)
 have e1:clip D.length (o:Int)=o:=kD ho
 have e2:clip D.length ((o:Int)+(m:Int))=min (o+m) D.length:=by
  unfold clip
  rw [if_neg (by lia)]
  congr 1
 rw [e1,e2]
 congr 1
 by_cases q:o+m≤D.length
 ·rw [Nat.min_eq_left q];congr 1;lia
 ·rw [Nat.min_eq_right (by lia),List.take_of_length_le (by simp),List.take_of_length_le (by simp;lia)]
theorem tG {D mark:List Nat} (hz:D.length≤900000) (hm:mark.length≤100000) {F:Fm} {H:List O} {o:Nat} (ho:o≤D.length) (k1:lk F.vs zC=some (.c (.byt D))) (k2:lk F.vs zAC=some (.c (.byt mark))) (k3:lk F.vs z7=some (.c (nat o))):
  TS blT F H ((D.drop o).take mark.length == mark) H:=by
 have okD:okL D=true:=Nat.ble_eq_true_of_le (by show D.length≤1000000;lia)
 have okm:okL mark=true:=Nat.ble_eq_true_of_le (by show mark.length≤1000000;lia)
 refine aK (dH (x:=.byt ((D.drop o).take mark.length)) (aB k1) (aB k3) (aW (aB k3) (aF aC (aA (aB k2) aD) (a9 (cs:=[.byt mark]) (x:=nat mark.length) rfl ?_)) rfl) rfl ?_) (aJ (aB k2) ?_)
 ·exact if_pos okm
 ·show j5 (.byt D) (nat o) (.int ((o:Int)+(mark.length:Int)))=_
  exact (if_pos okD).trans (by rw [jX ho];rfl)
 ·rfl
theorem BQ {D mark:List Nat} (hz:D.length≤900000) (hm:mark.length≤100000) (h13:13∉mark) (hne:mark≠[]):∀ (ls:List (List Nat)) (pre:List Nat) (F:Fm) (H:List O),D=pre++txt ls→lk F.vs zC=some (.c (.byt D))→lk F.vs zAC=some (.c (.byt mark))→
  CP (.con (.int 1)) blP [blT] (bJ pre.length ls) F H ((ls.filter (aR mark)).map fun _=>C.int 1) H:=by
 intro ls
 induction ls with
 |nil=>intro pre F H hD k1 k2;exact b8
 |cons x ls ih=>
  intro pre F H hD k1 k2
  have ho:pre.length≤D.length:=by rw [hD];simp
  cases ls with
  |nil=>
   cases x with
   |nil=>
    have:aR mark []=false:=by
     unfold aR
     rw [List.take_nil]
     exact beq_eq_false_iff_ne.mpr (Ne.symm hne)
    rw [List.filter_cons,this]
    exact b8
   |cons y x=>
    have hd:((D.drop pre.length).take mark.length == mark)=aR mark (y::x):=by
     rw [hD];simp [txt,aR]
    have t:=tG hz hm (F:=⟨F.d,put zAA (.c (nat (pre.length+(y::x).length))) (put zY (.c (nat (pre.length+(y::x).length))) (put z7 (.c (nat pre.length)) F.vs))⟩) (H:=H) ho (aE rfl (aE rfl (aE rfl k1))) (aE rfl (aE rfl (aE rfl k2))) (aE rfl (aE rfl lkp_eq))
    rw [hd] at t
    rw [List.filter_cons,List.filter_nil]
    cases q:aR mark (y::x) with
    |true=>rw [q] at t;exact dA tp3 (pH t bE) aC b8
    |false=>rw [q] at t;exact BP tp3 (tD t) b8
  |cons y ls=>
   have ht:txt (x::y::ls)=x++13::10::txt (y::ls):=rfl
   have hd:((D.drop pre.length).take mark.length == mark)=aR mark x:=by
    rw [hD,ht]
    simp only [List.drop_left]
    exact rO h13
   have t:=tG hz hm (F:=⟨F.d,put zAA (.c (nat (pre.length+x.length+2))) (put zY (.c (nat (pre.length+x.length))) (put z7 (.c (nat pre.length)) F.vs))⟩) (H:=H) ho (aE rfl (aE rfl (aE rfl k1))) (aE rfl (aE rfl (aE rfl k2))) (aE rfl (aE rfl lkp_eq))
   rw [hd] at t
   have hpl:(pre++x++[13,10]).length=pre.length+x.length+2:=by simp;lia
   have rest:=ih (pre++x++[13,10]) ⟨F.d,put zAA (.c (nat (pre.length+x.length+2))) (put zY (.c (nat (pre.length+x.length))) (put z7 (.c (nat pre.length)) F.vs))⟩ H (by rw [hD,ht];simp) (aE rfl (aE rfl (aE rfl k1))) (aE rfl (aE rfl (aE rfl k2)))
   rw [hpl] at rest
   rw [List.filter_cons]
   cases q:aR mark x with
   |true=>rw [q] at t;exact dA tp3 (pH t bE) aC rest
   |false=>rw [q] at t;exact BP tp3 (tD t) rest
theorem i0:∀ (ls:List (List Nat)) (o:Nat),(bJ o ls).length≤ls.length
 | [],o=>Nat.le_refl _
 | [x],o=>by cases x <;> simp [bJ]
 |x::y::l,o=>by
  have:=i0 (y::l) (o+x.length+2)
  simp only [bJ,List.length_cons] at this ⊢
  lia
theorem hJ {α:Type} {p:α→Bool}:∀ (ls:List α),(ls.filter p).isEmpty= !(ls.any p)
 | []=>rfl
 |x::l=>by
  have:=hJ (p:=p) l
  rw [List.filter_cons,List.any_cons]
  cases p x <;> simp [this]
theorem rP {l:List C} {H:List O}:jS H .NotEq (.c (.lst l)) (.c (.lst []))=some (!l.isEmpty):=by
 cases l with
 |nil=>rfl
 |cons x l=>rfl
theorem F7 {l:List C} {H:List O}:jS H .Eq (.c (.lst l)) (.c (.lst []))=some l.isEmpty:=by
 cases l with
 |nil=>rfl
 |cons x l=>rfl
theorem kE {ls:List (List Nat)} {mark:List Nat} (hz:(txt ls).length≤400000) (hl:∀ x∈ls,10∉x) (hm:mark.length≤100000) (h13:13∉mark) (hne:mark≠[]) {d:Nat} {H:List O}:
  CA (d+2) (.c (.obj 994)) [.c (.byt (txt ls)),.c (.byt mark)] H (.c (.bool (ls.any (aR mark)))) H:=by
 have h1:=dR ls
 have h2:=i0 ls 0
 have okz:okL (bJ 0 ls)=true:=Nat.ble_eq_true_of_le (by show (bJ 0 ls).length≤1000000;lia)
 refine aP (d:=d+1) (F1:=⟨d+1,[(zC,.c (.byt (txt ls))),(zAC,.c (.byt mark))]⟩) (H1:=[]) (f:=f994) rfl rfl rfl (aM (aL (mG (v:=.c (.lst ((ls.filter (aR mark)).map fun _=>C.int 1))) (cK (H1:=[]) (x:=.lst (bJ 0 ls)) (cs:=bJ 0 ls) ?_ ?_ (by show (bJ 0 ls).length≤1000000;lia) ?_) (aJ (eU rfl aD rfl) ?_))))
 ·exact aF aC (aA (aB rfl) aD) (pJ hz hl)
 ·exact if_pos okz
 ·exact BQ (D:=txt ls) (by lia) hm h13 hne ls [] _ [] rfl rfl rfl
 ·rw [rP]
  have:((ls.filter (aR mark)).map fun _=>C.int 1).isEmpty=(ls.filter (aR mark)).isEmpty:=by cases ls.filter (aR mark) <;> rfl
  rw [this,hJ,Bool.not_not]
noncomputable def bstr (k:Nat):List Nat:=[61,95,112,97,114,116,48+k]
noncomputable def aN (k:Nat):List Nat:=[45,45]++bstr k
noncomputable def dN (bs:List (List (List Nat))) (k:Nat):Bool:=bs.any fun ls=>ls.any (aR (aN k))
noncomputable abbrev cF (bs:List (List (List Nat))):List C:=bs.map fun ls=>.byt (txt ls)
theorem fY {v:Nat}:∀ (cs:List Nat) (F:Fm) (H:List O),CP (.cal (.con (.blt .ord)) [.var v]) (.nm v) [] (cs.map fun c=>C.str [c]) F H (cs.map fun (c:Nat)=>C.int (c:Int)) H
 | [],F,H=>b8
 |c::cs,F,H=>dA (F1:={F with vs:=put v (.c (.str [c])) F.vs}) aX bE (aF aC (aA (aB lkp_eq) aD) (a9 (cs:=[.str [c]]) (x:=.int c) rfl rfl)) (fY cs _ H)
noncomputable def bfB:List S:=whB ((f999.body[1]?).getD .bad)
noncomputable def bfT:X:=whT ((f999.body[1]?).getD .bad)
theorem BR {mark:List Nat} (hm:mark.length≤100000) (h13:13∉mark) (hne:mark≠[]):∀ (bs:List (List (List Nat))) (F:Fm) (H:List O),(∀ ls∈bs,(txt ls).length≤400000∧∀ x∈ls,10∉x)→lk F.vs zAC=some (.c (.byt mark))→∀ {d},F.d=d+2→
  CP (.con (.int 1)) (.nm z1) [.cal (.con (.obj 994)) [.var z1,.var zAC]] (cF bs) F H ((bs.filter fun ls=>ls.any (aR mark)).map fun _=>C.int 1) H:=by
 intro bs
 induction bs with
 |nil=>intro F H hb k d hd;exact b8
 |cons ls bs ih=>
  intro F H hb k d hd
  have h1:=hb ls (by simp)
  have t:TS (.cal (.con (.obj 994)) [.var z1,.var zAC]) {F with vs:=put z1 (.c (.byt (txt ls))) F.vs} H (ls.any (aR mark)) H:=by
   refine cE (v:=.c (.bool (ls.any (aR mark)))) rfl (aF aC (aA (aB lkp_eq) (aA (aB (aE rfl k)) aD)) ?_) rfl
   show CA F.d _ _ _ _ _
   rw [hd]
   exact kE h1.1 h1.2 hm h13 hne
  have rest:=ih {F with vs:=put z1 (.c (.byt (txt ls))) F.vs} H (fun z hz=>hb z (List.mem_cons_of_mem _ hz)) (aE rfl k) (d:=d) hd
  rw [List.filter_cons]
  cases q:ls.any (aR mark) with
  |true=>rw [q] at t;exact dA aX (pH t bE) aC rest
  |false=>rw [q] at t;exact BP aX (tD t) rest
noncomputable abbrev fP:Nat:=z3
noncomputable abbrev e8:Nat:=zAC
noncomputable abbrev tH:Nat:=z0
noncomputable abbrev cL:Nat:=zA1
theorem cases10 {P:Nat→Prop} (h0:P 0) (h1:P 1) (h2:P 2) (h3:P 3) (h4:P 4) (h5:P 5) (h6:P 6) (h7:P 7) (h8:P 8) (h9:P 9):∀ j,j < 10→P j:=by
 intro j hj
 have:j=0∨j=1∨j=2∨j=3∨j=4∨j=5∨j=6∨j=7∨j=8∨j=9:=by lia
 rcases this with rfl |rfl |rfl |rfl |rfl |rfl |rfl |rfl |rfl |rfl <;> assumption
theorem F8:∀ j,j < 10→iZ .str [nat j]=some (.str [48+j]):=cases10 rfl rfl rfl rfl rfl rfl rfl rfl rfl rfl
theorem rQ:∀ j,j < 10→iZ .bytes [.lst ((bstr j).map fun (c:Nat)=>C.int (c:Int))]=some (.byt (bstr j)):=cases10 rfl rfl rfl rfl rfl rfl rfl rfl rfl rfl
theorem iC {ns:List Nat} {m:Nat} (hm:mem m ns=false):∀ (l:List (Nat × V)),lk (d6 ns l) m=lk l m
 | []=>rfl
 |p::l=>by
  simp only [d6]
  cases q:mem p.1 ns with
  |true=>
   simp only [lk]
   have:Nat.beq p.1 m=false:=by
    cases q2:Nat.beq p.1 m with
    |false=>rfl
    |true=>rw [Nat.eq_of_beq_eq_true q2,hm] at q;cases q
   rw [this]
   exact iC hm l
  |false=>
   simp only [lk]
   cases Nat.beq p.1 m with
   |true=>rfl
   |false=>exact iC hm l
theorem tJ {bs:List (List (List Nat))} (hb:∀ ls∈bs,(txt ls).length≤400000∧∀ x∈ls,10∉x) (hn:bs.length≤1000) {j:Nat} (hj:j < 10) {F:Fm} {d:Nat} (hd:F.d=d+2) (k1:lk F.vs tH=some (.c (nat j))) (k2:lk F.vs cL=some (.c (.lst (cF bs)))):
  ∃ F1:Fm,F1.d=F.d∧lk F1.vs tH=some (.c (nat j))∧lk F1.vs cL=some (.c (.lst (cF bs)))∧lk F1.vs fP=some (.c (.str (bstr j)))∧
   ST (bfB[0]) F [] .nx {F with vs:=put fP (.c (.str (bstr j))) F.vs} []∧ST (bfB[1]) {F with vs:=put fP (.c (.str (bstr j))) F.vs} [] .nx F1 []∧
   TS (.cmp (.com (.con (.int 1)) (.nm z1) (.var cL) [.cal (.con (.obj 994)) [.var z1,.var e8]]) [.Eq] [.lst []]) F1 [] (!dN bs j) []:=by
 refine ⟨{F with vs:=put e8 (.c (.byt (aN j))) (put fP (.c (.str (bstr j))) F.vs)},rfl,aE rfl (aE rfl k1),aE rfl (aE rfl k2),aE rfl lkp_eq,?_,?_,?_⟩
 ·exact aG (aW aC (aF aC (aA (aB k1) aD) (bZ (cs:=[nat j]) (x:=.str [48+j]) rfl (F8 j hj))) rfl) aX
 ·exact aG (aW aC (aF aC (aA (cK (x:=.str (bstr j)) (cs:=(bstr j).map fun c=>C.str [c]) (aB lkp_eq) rfl (by show 7≤1000000;lia) (fY (bstr j) _ _)) aD) (bZ (cs:=[.lst ((bstr j).map fun (c:Nat)=>C.int (c:Int))]) (x:=.byt (bstr j)) rfl (rQ j hj))) rfl) aX
 ·have okz:okL (cF bs)=true:=Nat.ble_eq_true_of_le (by show (cF bs).length≤1000000;rw [List.length_map];lia)
  have h13:13∉aN j:=by
   unfold aN bstr
   simp
   lia
  refine aK (cK (H1:=[]) (x:=.lst (cF bs)) (cs:=cF bs) (aB (aE rfl (aE rfl k2))) (if_pos okz) (by show (cF bs).length≤1000000;rw [List.length_map];lia)
   (BR (mark:=aN j) (by show 9≤100000;lia) h13 (by intro e;cases e) bs _ [] hb ?_ (d:=d) hd)) (aJ (eU rfl aD rfl) ?_)
  ·exact (iC rfl _).trans lkp_eq
  ·rw [F7]
   have:((bs.filter fun ls=>ls.any (aR (aN j))).map fun _=>C.int 1).isEmpty=(bs.filter fun ls=>ls.any (aR (aN j))).isEmpty:=by cases bs.filter fun ls=>ls.any (aR (aN j)) <;> rfl
   rw [this,hJ];rfl
theorem BS {bs:List (List (List Nat))} (hb:∀ ls∈bs,(txt ls).length≤400000∧∀ x∈ls,10∉x) (hn:bs.length≤1000) {k:Nat} (hk:k < 10) (hu:dN bs k=false):∀ (m j:Nat),j+m=k→(∀ i,j≤i→i < k→dN bs i=true)→∀ (F:Fm) {d},F.d=d+2→lk F.vs z0=some (.c (nat j))→lk F.vs zA1=some (.c (.lst (cF bs)))→
  ∃ F',WH bfT bfB F [] (.rt (.c (.str (bstr k)))) F' []:=by
 intro m
 induction m with
 |zero=>
  intro j hj hlt F d hd k1 k2
  have:j=k:=by lia
  subst this
  obtain ⟨F1,e1,e2,e3,e4,s1,s2,t⟩:=tJ hb hn hk hd k1 k2
  rw [hu] at t
  exact ⟨F1,wZ (cE rfl aC rfl) (aH s1 (aH s2 (aM (aQ (b:=true) t (aM (aL (aB e4)))))))⟩
 |succ m ih=>
  intro j hj hlt F d hd k1 k2
  obtain ⟨F1,e1,e2,e3,e4,s1,s2,t⟩:=tJ hb hn (j:=j) (by lia) hd k1 k2
  rw [hlt j (Nat.le_refl _) (by lia)] at t
  obtain ⟨F',h⟩:=ih (j+1) (by lia) (fun i h1 h2=>hlt i (by lia) h2) {F1 with vs:=put tH (.c (nat (j+1))) F1.vs} (d:=d) (by rw [← hd,← e1]) lkp_eq (aE rfl e3)
  exact ⟨F',wY (cE rfl aC rfl) (aH s1 (aH s2 (aH (aQ (b:=false) t a5) (aH (aG (v:=.c (nat (j+1))) (aW (aB e2) aC rfl) aX) a5)))) h⟩
theorem jU {bs:List (List (List Nat))} (hb:∀ ls∈bs,(txt ls).length≤400000∧∀ x∈ls,10∉x) (hn:bs.length≤1000) {k:Nat} (hk:k < 10) (hu:dN bs k=false) (hlt:∀ i,i < k→dN bs i=true) {d:Nat} {H:List O}:
  CA (d+3) (.c (.obj 999)) [.c (.lst (cF bs))] H (.c (.str (bstr k))) H:=by
 obtain ⟨F',h⟩:=BS hb hn hk hu k 0 (by lia) (fun i _ h=>hlt i h) ⟨d+2,[(cL,.c (.lst (cF bs))),(tH,.c (nat 0))]⟩ (d:=d) rfl rfl rfl
 exact aP (d:=d+2) (F1:=F') (H1:=[]) (f:=f999) rfl rfl rfl (aH (aG aC aX) (aM (e7 h)))
theorem hM {H:List O} {a b:List Nat} (h:a.length+b.length≤1000000):rK H .Add (.c (.byt a)) (.c (.byt b))=some (.c (.byt (a++b))):=by
 show (vF .Add (.byt a) (.byt b)).map V.c=_
 have h':a.length+b.length≤lim:=h
 exact congrArg (Option.map V.c) (if_pos h')
noncomputable def blk (k:Nat) (ls:List (List Nat)):List Nat:=aN k++[13,10]++txt ls++[13,10]
theorem tK {k:Nat}:∀ (bs:List (List (List Nat))) (F:Fm) (H:List O),(∀ ls∈bs,(txt ls).length≤400000)→lk F.vs e8=some (.c (.byt (aN k)))→
  CP (.bin .Add (.bin .Add (.bin .Add (.var e8) (.con (.byt [13,10]))) (.var z1)) (.con (.byt [13,10]))) (.nm z1) [] (cF bs) F H (bs.map fun ls=>C.byt (blk k ls)) H
 | [],F,H,hb,k1=>b8
 |ls::bs,F,H,hb,k1=>by
  have h1:=hb ls (by simp)
  have hm:(aN k).length=9:=rfl
  refine dA (F1:={F with vs:=put z1 (.c (.byt (txt ls))) F.vs}) aX bE (aW (aW (aW (aB (aE rfl k1)) aC (hM ?_)) (aB lkp_eq) (hM ?_)) aC (hM ?_)) (tK bs _ H (fun z hz=>hb z (List.mem_cons_of_mem _ hz)) (aE rfl k1))
  ·simp [hm]
  ·simp [hm];lia
  ·simp [hm];lia
theorem mI:∀ l:List (List Nat),d9 [] l=l.flatten
 | []=>rfl
 | [x]=>by simp [d9]
 |x::y::l=>by
  have:=mI (y::l)
  simp only [d9,List.append_nil,List.flatten_cons] at this ⊢
  rw [this]
theorem rR:∀ l:List (List Nat),j4 (l.map C.byt)=some l:=
 pA fun _=>rfl
noncomputable def fD (k:Nat) (bs:List (List (List Nat))):List Nat:=(bs.map (blk k)).flatten++aN k++[45,45]++[13,10]
theorem jI:∀ l:List (List Nat),cQ l=l.flatten.length
 | []=>rfl
 |x::l=>by simp [cQ,jI l]
theorem w4 {bs:List (List Nat)} (h:bs.flatten.length≤1000000):hG .bjoin (.byt []) [.lst (bs.map C.byt)]=some (.byt bs.flatten):=by
 have hz:cQ bs+([]:List Nat).length * bs.length≤lim:=by
  rw [jI];show bs.flatten.length+0 * _≤1000000;rw [Nat.zero_mul];lia
 show (j4 _).bind _=_
 rw [rR]
 exact (if_pos hz).trans (by rw [mI])
theorem eH {e:X} {F:Fm} {H H1:List O} {bs:List (List Nat)} (h:bs.flatten.length≤1000000) (he:EX e F H (.c (.lst (bs.map C.byt))) H1):EX (.met (.con (.byt [])) b4 [e]) F H (.c (.byt bs.flatten)) H1:=
 eZ aC (g:=.bm .bjoin) rfl (aA he aD) (F6 rfl rfl rfl (w4 h))
theorem vJ {k:Nat} (hk:k < 10) {bs:List (List (List Nat))} (hb:∀ ls∈bs,(txt ls).length≤400000) (hn:bs.length≤1000) (ht:(bs.map (blk k)).flatten.length≤900000) {d:Nat} {H:List O}:
  CA (d+1) (.c (.obj 1023)) [.c (.lst (cF bs)),.c (.str (bstr k))] H (.c (.byt (fD k bs))) H:=by
 have okz:okL (cF bs)=true:=Nat.ble_eq_true_of_le (by show (cF bs).length≤1000000;rw [List.length_map];lia)
 have hm:(aN k).length=9:=rfl
 have s1:ST f1023.body[0] ⟨d,[(cL,.c (.lst (cF bs))),(fP,.c (.str (bstr k)))]⟩ [] .nx ⟨d,[(cL,.c (.lst (cF bs))),(fP,.c (.str (bstr k))),(e8,.c (.byt (aN k)))]⟩ []:=
  aG (aW aC (aF aC (aA (cK (x:=.str (bstr k)) (cs:=(bstr k).map fun c=>C.str [c]) (aB rfl) rfl (by show 7≤1000000;lia) (fY (bstr k) _ _)) aD) (bZ (cs:=[.lst ((bstr k).map fun (c:Nat)=>C.int (c:Int))]) (x:=.byt (bstr k)) rfl (rQ k hk))) rfl) aX
 have e1:EX (.met (.con (.byt [])) b4 [.com (.bin .Add (.bin .Add (.bin .Add (.var e8) (.con (.byt [13,10]))) (.var z1)) (.con (.byt [13,10]))) (.nm z1) (.var cL) []]) ⟨d,[(cL,.c (.lst (cF bs))),(fP,.c (.str (bstr k))),(e8,.c (.byt (aN k)))]⟩ [] (.c (.byt (bs.map (blk k)).flatten)) []:=by
  refine eH (Nat.le_trans ht (by decide)) ?_
  rw [List.map_map]
  exact cK (H1:=[]) (x:=.lst (cF bs)) (cs:=cF bs) (aB rfl) (if_pos okz) (Nat.le_of_ble_eq_true okz) (tK bs _ [] hb rfl)
 refine aP (d:=d) (F1:=⟨d,[(cL,.c (.lst (cF bs))),(fP,.c (.str (bstr k))),(e8,.c (.byt (aN k)))]⟩) (H1:=[]) (f:=f1023) rfl rfl rfl (aH s1 (aM (aL (aW (aW (aW e1 (aB rfl) (hM ?_)) aC (hM ?_)) aC (hM ?_)))))
 ·rw [hm];lia
 ·rw [List.length_append,hm];show _+2≤_;lia
 ·rw [List.length_append,List.length_append,hm];show _+2+2≤_;lia
theorem gC:∀ {a b:List (List Nat)},a≠[]→b≠[]→txt (a++b)=txt a++13::10::txt b
 | [],b,ha,hb=>absurd rfl ha
 | [x],b,ha,hb=>by
  cases b with
  |nil=>exact absurd rfl hb
  |cons y b=>rfl
 |x::y::l,b,ha,hb=>by
  have:=gC (a:=y::l) (b:=b) (by simp) hb
  simp only [List.cons_append] at this ⊢
  simp only [txt,this,List.append_assoc,List.cons_append]
noncomputable def jl (k:Nat):List (List (List Nat))→List (List Nat)
 | []=>[aN k++[45,45],[]]
 |ls::bs=>aN k::(ls++jl k bs)
theorem kG {k:Nat} {bs}:jl k bs≠[]:=by cases bs <;> simp [jl]
theorem hN {k:Nat}:∀ {bs:List (List (List Nat))},(∀ ls∈bs,ls≠[])→fD k bs=txt (jl k bs)
 | [],h=>by simp [fD,jl,txt]
 |ls::bs,h=>by
  have ih:=hN (k:=k) (bs:=bs) fun z hz=>h z (List.mem_cons_of_mem _ hz)
  have h1:fD k (ls::bs)=blk k ls++fD k bs:=by simp [fD,List.append_assoc]
  rw [h1,ih,jl,blk]
  have h2:=gC (h ls (by simp)) (kG (k:=k) (bs:=bs))
  cases hc:ls++jl k bs with
  |nil=>simp [kG] at hc
  |cons y l=>
   rw [hc] at h2
   simp only [txt,h2]
   simp [List.append_assoc]
theorem w5 {k:Nat} (hk:k < 10) {x:List Nat} (hz:x.length≤900000) (hs:aR (aN k) x=false) {d:Nat} {H:List O}:CA (d+1) (.c (.obj 805)) [.c (.byt x),.c (.byt (bstr k))] H (.c (.str [])) H:=by
 have okx:okL x=true:=Nat.ble_eq_true_of_le (by show x.length≤1000000;lia)
 refine aP (d:=d) (F1:=⟨d,[(zJ,.c (.byt x)),(fP,.c (.byt (bstr k))),(e8,.c (.byt (aN k)))]⟩) (H1:=[]) (f:=f805) rfl rfl rfl (aH (aG (aW aC (aB rfl) rfl) aX) (aM (aQ (b:=true) (aK (dH (x:=.byt (x.take 9)) (aB rfl) aC (aF aC (aA (aB rfl) aD) (a9 (cs:=[.byt (aN k)]) (x:=nat 9) rfl rfl)) rfl ?_) (aJ (aB rfl) ?_)) (aM (aL aC)))))
 ·show j5 (.byt x) .none (nat 9)=_
  have e:clip x.length (9:Int)=min 9 x.length:=rfl
  have e':cut x .none (nat 9)=some (x.take 9):=by
   refine (?_:some ((x.drop 0).take (min 9 x.length - 0))=_)
   congr 1
   simp
  exact (if_pos okx).trans (by rw [e'];rfl)
 ·show (wR (.byt (x.take 9)) (.byt (aN k))).map (!·)=some true
  have:(x.take 9 == aN k)=false:=hs
  exact congrArg (fun b=>some (!b)) this
noncomputable def cM (i:Nat):C:=match i with
 |0=>.ins 510 [(zAS,.str [116,101,120,116]),(z5,.str [112,108,97,105,110]),(zAT,.dcs [([99,104,97,114,115,101,116],.str [117,116,102,45,56])])]
 |1=>.ins 510 [(zAS,.str [116,101,120,116]),(z5,.str [104,116,109,108]),(zAT,.dcs [])]
 |2=>.ins 510 [(zAS,.str [97,112,112,108,105,99,97,116,105,111,110]),(z5,.str [120,45,97]),(zAT,.dcs [([110,97,109,101],.str [97,32,98])])]
 |_=>.ins 510 [(zAS,.str [105,109,97,103,101]),(z5,.str [112,110,103]),(zAT,.dcs [])]
noncomputable def fQ (i:Nat):List Nat:=match i with
 |0=>[] |1=>[97,13,10,98] |2=>[45,45,61,95,112,97,114,116,48,13,10,120] |3=>[0,255] |4=>[99,97,102,195,169,32,61,32,13,10] |5=>[120,10]
 |6=>[101,110,100,32,13,10] |7=>[45,45,61,95,112,97,114,116,49,45,45,13,10,45,45,61,95,112,97,114,116,48,45,45] |8=>[97,13,98] |9=>[32] |10=>[13,10]
 |_=>[67,111,110,116,101,110,116,45,84,121,112,101,58,32,116,101,120,116,47,104,116,109,108,13,10,13,10,46]
noncomputable def GA (n r:List Nat):C:=.ins 263 [(zK,.byt n),(zAB,.byt r)]
theorem w6 {k:Nat} (hk:k < 10) {d:Nat} (hd:5≤d) {H:List O}:CA d (.c (.obj 805)) [.c (.byt (aN k)),.c (.byt (bstr k))] H (.c (.str [110,101,120,116])) H:=by
 have h:∀ j,j < 10→CL 60 5 805 [C.byt (aN j),.byt (bstr j)] (.str [110,101,120,116]):=
  by apply cases10 <;> intro m e q <;> kernel_rfl
 exact bA (f:=f805) rfl (h k hk) hd
theorem w7 {k:Nat} (hk:k < 10) {d:Nat} (hd:5≤d) {H:List O}:CA d (.c (.obj 805)) [.c (.byt (aN k++[45,45])),.c (.byt (bstr k))] H (.c (.str [108,97,115,116])) H:=by
 have h:∀ j,j < 10→CL 60 5 805 [C.byt (aN j++[45,45]),.byt (bstr j)] (.str [108,97,115,116]):=
  by apply cases10 <;> intro m e q <;> kernel_rfl
 exact bA (f:=f805) rfl (h k hk) hd
noncomputable def d7 (k:Nat) (o:Nat):List (List (List Nat))→List C
 | []=>[]
 |ls::bs=>.tup [nat (o+11),nat (o+11+(txt ls).length)]::d7 k (o+11+(txt ls).length+2) bs
noncomputable def cY:List (List Nat)→Nat
 | []=>0
 |x::l=>x.length+2+cY l
noncomputable def w8 (o:Nat):List (List Nat)→List C
 | []=>[]
 |x::l=>spn o (o+x.length) (o+x.length+2)::w8 (o+x.length+2) l
theorem kH:∀ (ls:List (List Nat)) (o:Nat) {rest:List (List Nat)},rest≠[]→bJ o (ls++rest)=w8 o ls++bJ (o+cY ls) rest
 | [],o,rest,h=>rfl
 |x::l,o,rest,h=>by
  have ih:=kH l (o+x.length+2) h
  cases hc:l++rest with
  |nil=>simp [h] at hc
  |cons y t=>
   rw [List.cons_append,hc]
   simp only [bJ,w8,cY]
   rw [← hc,ih,List.cons_append]
   congr 3
   lia
theorem iD:∀ {ls:List (List Nat)},ls≠[]→cY ls=(txt ls).length+2
 | [],h=>absurd rfl h
 | [x],h=>rfl
 |x::y::l,h=>by
  have:=iD (ls:=y::l) (by simp)
  simp only [cY,txt,List.length_append,List.length_cons] at this ⊢
  lia
noncomputable abbrev eA:Nat:=zAG
noncomputable abbrev cO:Nat:=108187649798757
noncomputable def psS:S:=(f812.body[3]?).getD .bad
noncomputable def lpT (s:S):T:=match s with | .lop t _ _=>t |_=>.bad
noncomputable def lpB (s:S):List S:=match s with | .lop _ _ b=>b |_=>[]
theorem w9 {D:List Nat} (hz:D.length≤400000) {k:Nat} (hk:k < 10) {n:Nat}:∀ (ls:List (List Nat)) (pre post:List Nat) (F:Fm) (H:List O) {d},F.d=d+1→(∀ x∈ls,aR (aN k) x=false)→D=pre++(txt ls)++post→
  lk F.vs aY=some (.c (.byt D))→lk F.vs fP=some (.c (.byt (bstr k)))→
  ∃ F2:Fm,F2.d=F.d∧(∀ m,m≠z7→m≠zY→m≠bR→m≠7823737→m≠cO→lk F2.vs m=lk F.vs m)∧lk F2.vs cO=(if ls=[] then lk F.vs cO else some (.c (nat (pre.length+(txt ls).length))))∧
   ∀ {cs fl F3 H3},LP (lpT psS) (lpB psS) cs F2 H fl F3 H3→LP (lpT psS) (lpB psS) (w8 pre.length ls++cs) F H fl F3 H3:=by
 intro ls
 induction ls with
 |nil=>
  intro pre post F H d hd hs hD k1 k2
  exact ⟨F,rfl,fun _ _ _ _ _ _=>rfl,by simp,fun h=>h⟩
 |cons x ls ih=>
  intro pre post F H d hd hs hD k1 k2
  have okD:okL D=true:=Nat.ble_eq_true_of_le (by show D.length≤1000000;lia)
  obtain ⟨tl,htl⟩:∃ tl,txt (x::ls)=x++tl:=by
   cases ls with
   |nil=>exact ⟨[],by simp [txt]⟩
   |cons y l=>exact ⟨_,rfl⟩
  have hlen:pre.length+x.length≤D.length:=by rw [hD,htl];simp only [List.length_append];lia
  let F1:Fm:=⟨F.d,put bR (.c (nat (pre.length+x.length+2))) (put zY (.c (nat (pre.length+x.length))) (put z7 (.c (nat pre.length)) F.vs))⟩
  let F2:Fm:=⟨F.d,put cO (.c (nat (pre.length+x.length))) (put 7823737 (.c (.str [])) F1.vs)⟩
  have hcut:j5 (.byt D) (nat pre.length) (nat (pre.length+x.length))=some (.byt x):=by
   have e:cut D (nat pre.length) (nat (pre.length+x.length))=some x:=by
    have:=jX (D:=D) (o:=pre.length) (m:=x.length) (by lia)
    rw [show ((pre.length:Int)+(x.length:Int))=((pre.length+x.length:Nat):Int) by lia] at this
    rw [this,hD,htl]
    simp [List.append_assoc]
   exact (if_pos okD).trans (by rw [e];rfl)
  have b1:SS (lpB psS) F1 H .nx F2 H:=by
   refine aH (H1:=H) (aG (v:=.c (.str [])) (aF aC (aA (dH (x:=.byt x) (aB (aE rfl (aE rfl (aE rfl k1)))) (aB (aE rfl (aE rfl lkp_eq))) (aB (aE rfl lkp_eq)) rfl hcut) (aA (aB (aE rfl (aE rfl (aE rfl k2)))) aD)) ?_) aX) ?_
   ·show CA F.d _ _ _ _ _
    rw [hd]
    exact w5 hk (by lia) (hs x (by simp))
   ·exact aH (aQ (b:=false) (aK (aB lkp_eq) (aJ aC rfl)) a5) (aH (aG (aB (aE rfl (aE rfl lkp_eq))) aX) a5)
  have keep:∀ m,m≠z7→m≠zY→m≠bR→m≠7823737→m≠cO→lk F2.vs m=lk F.vs m:=by
   intro m h1 h2 h3 h4 h5
   have nb:∀ a b:Nat,b≠a→Nat.beq a b=false:=fun a b h=>by
    cases q:Nat.beq a b with
    |false=>rfl
    |true=>exact absurd (Nat.eq_of_beq_eq_true q).symm h
   exact aE (nb _ _ h5) (aE (nb _ _ h4) (aE (nb _ _ h3) (aE (nb _ _ h2) (aE (nb _ _ h1) rfl))))
  cases ls with
  |nil=>
   refine ⟨F2,rfl,keep,?_,fun h=>vG (tp3 (F:=F)) b1 h⟩
   rw [if_neg (by simp)]
   exact lkp_eq
  |cons y l=>
   have hpl:(pre++x++[13,10]).length=pre.length+x.length+2:=by simp;lia
   have ht:txt (x::y::l)=x++13::10::txt (y::l):=rfl
   obtain ⟨F4,e1,e2,e3,e4⟩:=ih (pre++x++[13,10]) post F2 H (d:=d) hd (fun z hz=>hs z (List.mem_cons_of_mem _ hz)) (by rw [hD,ht];simp) ((keep _ (by decide) (by decide) (by decide) (by decide) (by decide)).trans k1) ((keep _ (by decide) (by decide) (by decide) (by decide) (by decide)).trans k2)
   refine ⟨F4,e1.trans rfl,fun m h1 h2 h3 h4 h5=>(e2 m h1 h2 h3 h4 h5).trans (keep m h1 h2 h3 h4 h5),?_,fun h=> ?_⟩
   ·rw [if_neg (by simp)] at e3 ⊢
    rw [e3,hpl,ht]
    congr 3
    simp;lia
   ·have:=e4 h
    rw [hpl] at this
    exact vG (tp3 (F:=F)) b1 this
noncomputable def gP (bg:Int) (bf:Nat):List C:=if 0≤bg then [.tup [.int bg,.int (if bg < (bf:Int) then (bf:Int) else bg)]] else []
theorem tL {D x:List Nat} (hz:D.length≤400000) {k:Nat} {wy:List Nat} {pre tl:List Nat} {F:Fm} {H:List O} {d:Nat} (hd:F.d=d) (hD:D=pre++x++tl) (k1:lk F.vs aY=some (.c (.byt D))) (k2:lk F.vs fP=some (.c (.byt (bstr k)))) {bh:Nat}
  (hw:∀ {H},CA d (.c (.obj 805)) [.c (.byt x),.c (.byt (bstr k))] H (.c (.str wy)) H):
  ST (lpB psS)[0] ⟨F.d,put bR (.c (nat bh)) (put zY (.c (nat (pre.length+x.length))) (put z7 (.c (nat pre.length)) F.vs))⟩ H .nx
   ⟨F.d,put 7823737 (.c (.str wy)) (put bR (.c (nat bh)) (put zY (.c (nat (pre.length+x.length))) (put z7 (.c (nat pre.length)) F.vs)))⟩ H:=by
 have okD:okL D=true:=Nat.ble_eq_true_of_le (by show D.length≤1000000;lia)
 have hcut:j5 (.byt D) (nat pre.length) (nat (pre.length+x.length))=some (.byt x):=by
  have e:cut D (nat pre.length) (nat (pre.length+x.length))=some x:=by
   have:=jX (D:=D) (o:=pre.length) (m:=x.length) (by rw [hD];simp)
   rw [show ((pre.length:Int)+(x.length:Int))=((pre.length+x.length:Nat):Int) by lia] at this
   rw [this,hD]
   simp [List.append_assoc]
  exact (if_pos okD).trans (by rw [e];rfl)
 refine aG (v:=.c (.str wy)) (aF aC (aA (dH (x:=.byt x) (aB (aE rfl (aE rfl (aE rfl k1)))) (aB (aE rfl (aE rfl lkp_eq))) (aB (aE rfl lkp_eq)) rfl hcut) (aA (aB (aE rfl (aE rfl (aE rfl k2)))) aD)) ?_) aX
 show CA F.d _ _ _ _ _
 rw [hd]
 exact hw
theorem xA {n:Nat} {acc:List C} {bg:Int} {bf:Nat} {F:Fm} {H:List O} (hn:H[n]? =some (.lst acc)) (ha:acc.length < 1000) (k1:lk F.vs dZ=some (.r n)) (k2:lk F.vs eA=some (.c (.int bg))) (k3:lk F.vs cO=some (.c (nat bf))):
  ∃ H2,H2[n]? =some (.lst (acc++gP bg bf))∧H2.length=H.length∧ST (.ite (.cmp (.var eA) [.GtE] [.con (.int 0)]) [.exp (.met (.var dZ) c6 [.tup [.var eA,.cal (.con (.blt .max)) [.var eA,.var cO]]])] []) F H .nx F H2:=by
 by_cases q:0≤bg
 ·refine ⟨H.set n (.lst (acc++gP bg bf)),jW hn,by simp,aQ (b:=true) (aK (aB k2) (aJ aC (congrArg some (decide_eq_true q)))) (aH (eQ ?_) a5)⟩
  unfold gP
  rw [if_pos q]
  refine mH (aB k1) hn (a7 rfl (aA (aB k2) (aA (aF aC (aA (aB k2) (aA (aB k3) aD)) (a9 (cs:=[.int bg,nat bf]) (x:=.int (if bg < (bf:Int) then (bf:Int) else bg)) rfl rfl)) aD)) rfl) hn (by show acc.length < 1000000;lia)
 ·refine ⟨H,?_,rfl,aQ (b:=false) (aK (aB k2) (aJ aC (congrArg some (decide_eq_false q)))) a5⟩
  unfold gP
  rw [if_neg q,List.append_nil];exact hn
theorem BU {D:List Nat} (hz:D.length≤400000) {k:Nat} (hk:k < 10) {n:Nat}:∀ (bs:List (List (List Nat))) (pre post:List Nat) (F:Fm) (H:List O) (acc:List C) (bg:Int) (bf:Nat) {d},F.d=d+5→D=pre++txt (jl k bs)++post→
  (∀ ls∈bs,ls≠[]∧∀ x∈ls,aR (aN k) x=false)→lk F.vs aY=some (.c (.byt D))→lk F.vs fP=some (.c (.byt (bstr k)))→lk F.vs dZ=some (.r n)→lk F.vs eA=some (.c (.int bg))→lk F.vs cO=some (.c (nat bf))→
  H[n]? =some (.lst acc)→acc.length+bs.length < 900→
  ∃ F' H',LP (lpT psS) (lpB psS) (bJ pre.length (jl k bs)) F H (.rt (.r n)) F' H'∧H'[n]? =some (.lst (acc++gP bg bf++d7 k pre.length bs)):=by
 intro bs
 induction bs with
 |nil=>
  intro pre post F H acc bg bf d hd hD hs k1 k2 k3 k4 k5 hn ha
  have hx:(aN k++[45,45]).length=11:=rfl
  have m:=tL (pre:=pre) (x:=aN k++[45,45]) (wy:=[108,97,115,116]) (tl:=[13,10]++post) (F:=F) (H:=H) (bh:=pre.length+11+2) hz rfl (by rw [hD];simp [jl,txt]) k1 k2 (w7 hk (by lia))
  obtain ⟨H2,h1,h2,h3⟩:=xA (F:=⟨F.d,put 7823737 (.c (.str [108,97,115,116])) (put bR (.c (nat (pre.length+11+2))) (put zY (.c (nat (pre.length+(aN k++[45,45]).length))) (put z7 (.c (nat pre.length)) F.vs)))⟩) hn (by simp at ha;lia) (aE rfl (aE rfl (aE rfl (aE rfl k3)))) (aE rfl (aE rfl (aE rfl (aE rfl k4)))) (aE rfl (aE rfl (aE rfl (aE rfl k5))))
  refine ⟨_,H2,EP (tp3 (F:=F)) (aH m (aM (aQ (b:=true) (aK (aB lkp_eq) (aJ aC rfl)) (aH h3 (aM (aQ (b:=true) (aK (aB lkp_eq) (aJ aC rfl)) (aM (aL (aB (aE rfl (aE rfl (aE rfl (aE rfl k3))))))))))))),?_⟩
  rw [h1,d7,List.append_nil]
 |cons ls bs ih=>
  intro pre post F H acc bg bf d hd hD hs k1 k2 k3 k4 k5 hn ha
  obtain ⟨hls,hq⟩:=hs ls (by simp)
  have hm9:(aN k).length=9:=rfl
  have hne:ls++jl k bs≠[]:=by simp [hls]
  have ht1:txt (jl k (ls::bs))=aN k++13::10::(txt ls++13::10::txt (jl k bs)):=by
   rw [jl,show aN k::(ls++jl k bs)=[aN k]++(ls++jl k bs) from rfl,gC (by simp) hne,gC hls kG];rfl
  have hsp:bJ pre.length (jl k (ls::bs))=spn pre.length (pre.length+9) (pre.length+11)::(w8 (pre.length+11) ls++bJ (pre.length+11+cY ls) (jl k bs)):=by
   rw [jl]
   rw [← kH ls (pre.length+11) (kG (k:=k) (bs:=bs))]
   cases hc:ls++jl k bs with
   |nil=>exact absurd hc hne
   |cons y t=>rfl
  have m:=tL (pre:=pre) (x:=aN k) (wy:=[110,101,120,116]) (tl:=13::10::(txt ls++13::10::txt (jl k bs))++post) (F:=F) (H:=H) (bh:=pre.length+11) hz rfl (by rw [hD,ht1];simp) k1 k2 (w6 hk (by lia))
  obtain ⟨H2,h1,h2,h3⟩:=xA (F:=⟨F.d,put 7823737 (.c (.str [110,101,120,116])) (put bR (.c (nat (pre.length+11))) (put zY (.c (nat (pre.length+(aN k).length))) (put z7 (.c (nat pre.length)) F.vs)))⟩) hn (by simp at ha;lia) (aE rfl (aE rfl (aE rfl (aE rfl k3)))) (aE rfl (aE rfl (aE rfl (aE rfl k4)))) (aE rfl (aE rfl (aE rfl (aE rfl k5))))
  let Fa:Fm:=⟨F.d,put cO (.c (nat (pre.length+9))) (put eA (.c (nat (pre.length+11))) (put 7823737 (.c (.str [110,101,120,116])) (put bR (.c (nat (pre.length+11))) (put zY (.c (nat (pre.length+(aN k).length))) (put z7 (.c (nat pre.length)) F.vs)))))⟩
  have b1:SS (lpB psS) ⟨F.d,put bR (.c (nat (pre.length+11))) (put zY (.c (nat (pre.length+(aN k).length))) (put z7 (.c (nat pre.length)) F.vs))⟩ H .nx Fa H2:=
   aH m (aH (aQ (b:=true) (aK (aB lkp_eq) (aJ aC rfl)) (aH h3 (aH (aQ (b:=false) (aK (aB lkp_eq) (aJ aC rfl)) a5) (aH (aG (aB (aE rfl lkp_eq)) aX) a5)))) (aH (aG (aB (aE rfl (aE rfl (aE rfl lkp_eq)))) aX) a5))
  have up6:∀ {m v},m≠cO→m≠eA→m≠7823737→m≠bR→m≠zY→m≠z7→lk F.vs m=some v→lk Fa.vs m=some v:=by
   intro m v h1 h2 h3 h4 h5 h6 hv
   have nb:∀ a b:Nat,b≠a→Nat.beq a b=false:=fun a b h=>by
    cases q:Nat.beq a b with
    |false=>rfl
    |true=>exact absurd (Nat.eq_of_beq_eq_true q).symm h
   exact aE (nb _ _ h1) (aE (nb _ _ h2) (aE (nb _ _ h3) (aE (nb _ _ h4) (aE (nb _ _ h5) (aE (nb _ _ h6) hv)))))
  have hp1:(pre++aN k++[13,10]).length=pre.length+11:=by simp [hm9]
  obtain ⟨F4,e1,e2,e3,e4⟩:=w9 hz hk (n:=n) ls (pre++aN k++[13,10]) (13::10::txt (jl k bs)++post) Fa H2 (d:=d+4) hd hq (by rw [hD,ht1];simp) (up6 (by decide) (by decide) (by decide) (by decide) (by decide) (by decide) k1) (up6 (by decide) (by decide) (by decide) (by decide) (by decide) (by decide) k2)
  have hp2:(pre++aN k++[13,10]++txt ls++[13,10]).length=pre.length+11+cY ls:=by rw [iD hls];simp only [List.length_append,hm9,List.length_cons,List.length_nil];lia
  rw [hp1] at e3 e4
  have kk:∀ {m v},m≠cO→m≠eA→m≠7823737→m≠bR→m≠zY→m≠z7→lk F.vs m=some v→lk F4.vs m=some v:=fun h1 h2 h3 h4 h5 h6 hv=>(e2 _ h6 h5 h4 h3 h1).trans (up6 h1 h2 h3 h4 h5 h6 hv)
  obtain ⟨F',H',r1,r2⟩:=ih (pre++aN k++[13,10]++txt ls++[13,10]) post F4 H2 (acc++gP bg bf) ((pre.length+11:Nat):Int) (pre.length+11+(txt ls).length) (d:=d) (e1.trans hd) (by rw [hD,ht1];simp) (fun z hz=>hs z (List.mem_cons_of_mem _ hz))
   (kk (by decide) (by decide) (by decide) (by decide) (by decide) (by decide) k1) (kk (by decide) (by decide) (by decide) (by decide) (by decide) (by decide) k2) (kk (by decide) (by decide) (by decide) (by decide) (by decide) (by decide) k3)
   ((e2 _ (by decide) (by decide) (by decide) (by decide) (by decide)).trans (aE rfl lkp_eq)) (by rw [e3,if_neg hls]) h1 (by
    have:(gP bg bf).length≤1:=by unfold gP;split <;> simp
    simp only [List.length_append,List.length_cons] at ha ⊢;lia)
  rw [hp2] at r1 r2
  refine ⟨F',H',?_,?_⟩
  ·rw [hsp]
   exact vG (tp3 (F:=F)) b1 (e4 r1)
  ·rw [r2]
   have hp:gP ((pre.length+11:Nat):Int) (pre.length+11+(txt ls).length)=[.tup [nat (pre.length+11),nat (pre.length+11+(txt ls).length)]]:=by
    unfold gP
    have e:(if ((pre.length+11:Nat):Int) < ((pre.length+11+(txt ls).length:Nat):Int) then ((pre.length+11+(txt ls).length:Nat):Int) else ((pre.length+11:Nat):Int))=((pre.length+11+(txt ls).length:Nat):Int):=by
     by_cases q:((pre.length+11:Nat):Int) < ((pre.length+11+(txt ls).length:Nat):Int)
     ·rw [if_pos q]
     ·rw [if_neg q];lia
    rw [if_pos (Int.natCast_nonneg _),e]
   rw [hp,d7,iD hls,List.append_assoc,List.append_assoc,List.append_assoc]
   congr 4
theorem l8 {D:List Nat} (hz:D.length≤400000) {k:Nat} (hk:k < 10) {bs:List (List (List Nat))} {pre post:List Nat} (hD:D=pre++txt (jl k bs)++post) (hs:∀ ls∈bs,ls≠[]∧∀ x∈ls,aR (aN k) x=false) (hl:∀ x∈jl k bs,10∉x) (hn:bs.length < 900)
  {hi:Nat} (hhi:hi=pre.length+(txt (jl k bs)).length) {d:Nat} {H:List O}:
  CA (d+6) (.c (.obj 812)) [.c (.byt D),.c (nat pre.length),.c (nat hi),.c (.byt (bstr k))] H (.c (.lst (d7 k pre.length bs))) H:=by
 have h1:=dR (jl k bs)
 have h2:=i0 (jl k bs) pre.length
 have hle:(txt (jl k bs)).length≤D.length:=by rw [hD];simp only [List.length_append];lia
 have okz:okL (bJ pre.length (jl k bs))=true:=Nat.ble_eq_true_of_le (by show _≤1000000;lia)
 let F1:Fm:=⟨d+5,[(aY,.c (.byt D)),(zA,.c (nat pre.length)),(zI,.c (nat hi)),(fP,.c (.byt (bstr k))),(dZ,.r 0),(eA,.c (.int (-1))),(cO,.c (nat pre.length))]⟩
 obtain ⟨F',H',r1,r2⟩:=BU hz hk (n:=0) bs pre post F1 [.lst []] [] (-1) pre.length (d:=d) rfl hD hs rfl rfl rfl rfl rfl rfl (by simpa using hn)
 have r2':H'[0]? =some (.lst (d7 k pre.length bs)):=r2
 have hb:back 0 H' (.r 0)=some (.c (.lst (d7 k pre.length bs))):=by
  show (view H' (.r 0)).map V.c=_
  simp only [view,r2'];rfl
 exact jH (d:=d+5) (f:=f812) rfl rfl rfl (aH (e6 rfl aD rfl) (aH (aG (gO aC) aX) (aH (aG (aB rfl) aX) (aM (nN (cs:=bJ pre.length (jl k bs)) (aF aC (aA (aB rfl) (aA (aB rfl) (aA (aB rfl) aD))) (l7 (pre:=pre) (post:=post) hz hD hl hhi)) (by show eP (.lst (bJ pre.length (jl k bs)))=_;exact if_pos okz) r1))))) hb
set_option genSizeOf false
set_option genInjectivity false
set_option genCtorIdx false
inductive P where
 |leaf (k:Fin 4) (o:Fin 12) (f:Fin 3)
 |one (s f:Fin 3) (p:P)
 |two (s f:Fin 3) (p q:P)
 |ltr (f:Fin 3) (p:P)
inductive Fi where
 |xa |sj |xb |mv |fr |cb |cq |cl
 |ct (k:Fin 4)
 |cm (s:Fin 3) (k:Fin 4)
noncomputable def s3 (s:Fin 3):List Nat:=match s.val with
 |0=>[109,105,120,101,100] |1=>[100,105,103,101,115,116] |_=>[97,108,116,101,114,110,97,116,105,118,101]
noncomputable def wCT:List Nat:=[99,111,110,116,101,110,116,45,116,121,112,101]
noncomputable def wCE:List Nat:=[99,111,110,116,101,110,116,45,116,114,97,110,115,102,101,114,45,101,110,99,111,100,105,110,103]
noncomputable def wMV:List Nat:=[109,105,109,101,45,118,101,114,115,105,111,110]
noncomputable def rS:List Nat:=[67,111,110,116,101,110,116,45,84,121,112,101]
noncomputable def JK:List Nat:=[67,111,110,116,101,110,116,45,84,114,97,110,115,102,101,114,45,69,110,99,111,100,105,110,103]
noncomputable def nm:Fi→List Nat
 | .xa=>[88,45,65] | .sj=>[83,117,98,106,101,99,116] | .xb=>[120,45,97] | .mv=>[77,73,77,69,45,86,101,114,115,105,111,110] | .fr=>[70,114,111,109]
 | .cb=>JK | .cq=>JK | .cl=>rS | .ct _=>rS | .cm _ _=>rS
noncomputable def wd:Fi→List Nat
 | .xa=>[120,45,97] | .sj=>[115,117,98,106,101,99,116] | .xb=>[120,45,97] | .mv=>wMV | .fr=>[102,114,111,109]
 | .cb=>wCE | .cq=>wCE | .cl=>wCT | .ct _=>wCT | .cm _ _=>wCT
noncomputable def sB:List Nat:=[98,97,115,101,54,52]
noncomputable def sQ:List Nat:=[113,117,111,116,101,100,45,112,114,105,110,116,97,98,108,101]
noncomputable def s7:List Nat:=[55,98,105,116]
noncomputable def GB:List Nat:=[109,117,108,116,105,112,97,114,116]
noncomputable def JL:List Nat:=[109,101,115,115,97,103,101]
noncomputable def JM:List Nat:=[114,102,99,56,50,50]
noncomputable def rw':Fi→List (List Nat)
 | .xa=>[[32,49,32]] | .sj=>[[32,115],[9,116]] | .xb=>[[]] | .mv=>[[32,49,46,48]] | .fr=>[[32,97,64,98]]
 | .cb=>[32::sB] | .cq=>[32::sQ] | .cl=>[32::(JL++47::JM)]
 | .ct k=>match k.val with
  |0=>[[32,116,101,120,116,47,112,108,97,105,110,59],[32,99,104,97,114,115,101,116,61,117,116,102,45,56]]
  |1=>[[32,116,101,120,116,47,104,116,109,108]]
  |2=>[[32,97,112,112,108,105,99,97,116,105,111,110,47,120,45,97,59],[32,110,97,109,101,61,34,97,32,98,34]]
  |_=>[[32,105,109,97,103,101,47,112,110,103]]
 | .cm s k=>[32::(GB++47::(s3 s++[59])),[32,98,111,117,110,100,97,114,121,61,34]++bstr k.val++[34]]
noncomputable def un (i:Fi):List Nat:=j7 [32,9] ((rw' i).flatten.dropWhile [32,9].contains)
noncomputable def fC (i:Fi):C:=GA (nm i) (txt (rw' i))
noncomputable def fl (i:Fi):List (List Nat):=match rw' i with
 | []=>[]
 |r::rs=>(nm i++58::r)::rs
noncomputable def hl (is:List Fi):List (List Nat):=is.flatMap fl
noncomputable def fI (f:Fin 3):List Fi:=match f.val with
 |0=>[] |1=>[.xa] |_=>[.sj,.xb]
noncomputable def kI (o:Fin 12):List Fi:=match o.val with
 |3=>[.cb] |4=>[.cb] |8=>[.cb] |5=>[.cq] |_=>[]
noncomputable def hO (o:Fin 12):List Nat:=match o.val with
 |3=>sB |4=>sB |8=>sB |5=>sQ |_=>s7
noncomputable def bl (o:Fin 12):List (List Nat):=match o.val with
 |0=>[[]] |1=>[[97],[98]] |2=>[[45,45,61,95,112,97,114,116,48],[120]] |3=>[[65,80,56,61]] |4=>[[89,50,70,109,119,54,107,103,80,83,65,78,67,103,61,61]]
 |5=>[[120,61,48,65]] |6=>[[101,110,100,32],[]] |7=>[[45,45,61,95,112,97,114,116,49,45,45],[45,45,61,95,112,97,114,116,48,45,45]]
 |8=>[[89,81,49,105]] |9=>[[32]] |10=>[[],[]] |_=>[[67,111,110,116,101,110,116,45,84,121,112,101,58,32,116,101,120,116,47,104,116,109,108],[],[46]]
noncomputable def cH (s:Fin 3) (k:Fin 4):C:=.ins 510 [(zAS,.str GB),(z5,.str (s3 s)),(zAT,.dcs [([98,111,117,110,100,97,114,121],.str (bstr k.val))])]
noncomputable def dC:C:=.ins 510 [(zAS,.str JL),(z5,.str JM),(zAT,.dcs [])]
noncomputable def pc:P→C
 | .leaf k o f=>.ins 896 [(zM,cM k.val),(zC,.byt (fQ o.val)),(zF,.tup ((fI f).map fC))]
 | .one s f p=>.ins 929 [(z5,.str (s3 s)),(zU,.lst [pc p]),(zF,.tup ((fI f).map fC))]
 | .two s f p q=>.ins 929 [(z5,.str (s3 s)),(zU,.lst [pc p,pc q]),(zF,.tup ((fI f).map fC))]
 | .ltr f p=>.ins 966 [(zL,pc p),(zF,.tup ((fI f).map fC))]
theorem fin3 {Q:Fin 3→Prop} (h0:Q ⟨0,by decide⟩) (h1:Q ⟨1,by decide⟩) (h2:Q ⟨2,by decide⟩):∀ i,Q i
 | ⟨0,_⟩=>h0 | ⟨1,_⟩=>h1 | ⟨2,_⟩=>h2
theorem fin4 {Q:Fin 4→Prop} (h0:Q ⟨0,by decide⟩) (h1:Q ⟨1,by decide⟩) (h2:Q ⟨2,by decide⟩) (h3:Q ⟨3,by decide⟩):∀ i,Q i
 | ⟨0,_⟩=>h0 | ⟨1,_⟩=>h1 | ⟨2,_⟩=>h2 | ⟨3,_⟩=>h3
theorem fin12 {Q:Fin 12→Prop} (h0:Q ⟨0,by decide⟩) (h1:Q ⟨1,by decide⟩) (h2:Q ⟨2,by decide⟩) (h3:Q ⟨3,by decide⟩) (h4:Q ⟨4,by decide⟩) (h5:Q ⟨5,by decide⟩) (h6:Q ⟨6,by decide⟩) (h7:Q ⟨7,by decide⟩) (h8:Q ⟨8,by decide⟩) (h9:Q ⟨9,by decide⟩) (h10:Q ⟨10,by decide⟩) (h11:Q ⟨11,by decide⟩):∀ i,Q i
 | ⟨0,_⟩=>h0 | ⟨1,_⟩=>h1 | ⟨2,_⟩=>h2 | ⟨3,_⟩=>h3 | ⟨4,_⟩=>h4 | ⟨5,_⟩=>h5 | ⟨6,_⟩=>h6 | ⟨7,_⟩=>h7 | ⟨8,_⟩=>h8 | ⟨9,_⟩=>h9 | ⟨10,_⟩=>h10 | ⟨11,_⟩=>h11
theorem fi8 {Q:Fi→Prop} (h1:Q .xa) (h2:Q .sj) (h3:Q .xb) (h4:Q .mv) (h5:Q .fr) (h6:Q .cb) (h7:Q .cq) (h8:Q .cl) (h9:∀ k,Q (.ct k)) (h10:∀ s k,Q (.cm s k)):∀ i,Q i
 | .xa=>h1 | .sj=>h2 | .xb=>h3 | .mv=>h4 | .fr=>h5 | .cb=>h6 | .cq=>h7 | .cl=>h8 | .ct k=>h9 k | .cm s k=>h10 s k
theorem fi24 {Q:Fi→Prop} (h1:Q .xa) (h2:Q .sj) (h3:Q .xb) (h4:Q .mv) (h5:Q .fr) (h6:Q .cb) (h7:Q .cq) (h8:Q .cl) (a0:Q (.ct ⟨0,by decide⟩)) (a1:Q (.ct ⟨1,by decide⟩)) (a2:Q (.ct ⟨2,by decide⟩)) (a3:Q (.ct ⟨3,by decide⟩))
  (b0:Q (.cm ⟨0,by decide⟩ ⟨0,by decide⟩)) (b1:Q (.cm ⟨0,by decide⟩ ⟨1,by decide⟩)) (b2:Q (.cm ⟨0,by decide⟩ ⟨2,by decide⟩)) (b3:Q (.cm ⟨0,by decide⟩ ⟨3,by decide⟩))
  (c0:Q (.cm ⟨1,by decide⟩ ⟨0,by decide⟩)) (c1:Q (.cm ⟨1,by decide⟩ ⟨1,by decide⟩)) (c2:Q (.cm ⟨1,by decide⟩ ⟨2,by decide⟩)) (c3:Q (.cm ⟨1,by decide⟩ ⟨3,by decide⟩))
  (d0:Q (.cm ⟨2,by decide⟩ ⟨0,by decide⟩)) (d1:Q (.cm ⟨2,by decide⟩ ⟨1,by decide⟩)) (d2:Q (.cm ⟨2,by decide⟩ ⟨2,by decide⟩)) (d3:Q (.cm ⟨2,by decide⟩ ⟨3,by decide⟩)):∀ i,Q i:=
 fi8 h1 h2 h3 h4 h5 h6 h7 h8 (fin4 a0 a1 a2 a3) (fin3 (fin4 b0 b1 b2 b3) (fin4 c0 c1 c2 c3) (fin4 d0 d1 d2 d3))
theorem GC:∀ i,CL 60 9 253 [fC i] (.str (wd i)):=by
 apply fi24 <;> intro m e q <;> kernel_rfl
theorem JN:∀ i,CL 200 9 316 [C.byt (txt (rw' i))] (.byt (un i)):=by
 apply fi24 <;> intro m e q <;> kernel_rfl
theorem BV:∀ i,CL 200 9 335 [fC i] (.bool true):=by
 apply fi24 <;> intro m e q <;> kernel_rfl
theorem GD:∀ i,CL 200 9 281 [C.byt (nm i)] (.bool true):=by
 apply fi24 <;> intro m e q <;> kernel_rfl
set_option genSizeOf true
set_option genInjectivity true
set_option genCtorIdx true
noncomputable def wk (i:Fi):List Nat:=(txt (rw' i)).tail
theorem JO:∀ k:Fin 4,CL 200 9 681 [cM k.val] (.byt (wk (.ct k))):=by
 apply fin4 <;> intro m e q <;> kernel_rfl
theorem JP:∀ s k,CL 200 9 681 [cH s k] (.byt (wk (.cm s k))):=by
 apply fin3 <;> apply fin4 <;> intro m e q <;> kernel_rfl
theorem JQ:CL 200 9 681 [dC] (.byt (wk .cl)):=by intro m e q;kernel_rfl
theorem xB:∀ i,(match i with | .ct _=>True | .cm _ _=>True | .cl=>True |_=>False)→[32]++wk i=txt (rw' i):=
 fi8 (fun h=>h.elim) (fun h=>h.elim) (fun h=>h.elim) (fun h=>h.elim) (fun h=>h.elim) (fun h=>h.elim) (fun h=>h.elim) (fun _=>rfl) (fin4 (fun _=>rfl) (fun _=>rfl) (fun _=>rfl) (fun _=>rfl))
  (fin3 (fin4 (fun _=>rfl) (fun _=>rfl) (fun _=>rfl) (fun _=>rfl)) (fin4 (fun _=>rfl) (fun _=>rfl) (fun _=>rfl) (fun _=>rfl)) (fin4 (fun _=>rfl) (fun _=>rfl) (fun _=>rfl) (fun _=>rfl)))
theorem JR:∀ k:Fin 4,CL 300 12 627 [C.byt (un (.ct k))] (cM k.val):=by
 apply fin4 <;> intro m e q <;> kernel_rfl
theorem JS:∀ s k,CL 300 12 627 [C.byt (un (.cm s k))] (cH s k):=by
 apply fin3 <;> apply fin4 <;> intro m e q <;> kernel_rfl
theorem JT:CL 300 12 627 [C.byt (un .cl)] dC:=by intro m e q;kernel_rfl
noncomputable def kdT (k:Fin 4):C:=match k.val with
 |0=>.tup [.str [116,101,120,116],.str [112,108,97,105,110],.tup [.tup [.str [99,104,97,114,115,101,116],.str [117,116,102,45,56]]]]
 |1=>.tup [.str [116,101,120,116],.str [104,116,109,108],.tup []]
 |2=>.tup [.str [97,112,112,108,105,99,97,116,105,111,110],.str [120,45,97],.tup [.tup [.str [110,97,109,101],.str [97,32,98]]]]
 |_=>.tup [.str [105,109,97,103,101],.str [112,110,103],.tup []]
theorem JU:∀ k:Fin 4,CL 100 9 486 [cM k.val] (kdT k):=by
 apply fin4 <;> intro m e q <;> kernel_rfl
noncomputable def isT (k:Fin 4):Bool:=match k.val with |0=>true |1=>true |_=>false
theorem ET:∀ k:Fin 4,CL 100 9 493 [cM k.val] (.bool false):=by
 apply fin4 <;> intro m e q <;> kernel_rfl
theorem EU:∀ k:Fin 4,CL 100 9 500 [cM k.val] (.bool false):=by
 apply fin4 <;> intro m e q <;> kernel_rfl
theorem EV:∀ k:Fin 4,CL 100 9 507 [cM k.val] (.bool (isT k)):=by
 apply fin4 <;> intro m e q <;> kernel_rfl
theorem JV:∀ s k,CL 100 9 493 [cH s k] (.bool true):=by
 apply fin3 <;> apply fin4 <;> intro m e q <;> kernel_rfl
theorem JW:CL 100 9 493 [dC] (.bool false):=by intro m e q;kernel_rfl
theorem JX:CL 100 9 500 [dC] (.bool true):=by intro m e q;kernel_rfl
theorem EW:∀ f,CL 200 12 1006 [C.tup ((fI f).map fC)] .none:=by
 apply fin3 <;> intro m e q <;> kernel_rfl
theorem GE:CL 200 12 1006 [C.tup [fC .fr]] .none:=by intro m e q;kernel_rfl
theorem MP:∀ (o:Fin 12) (t:Bool),CL 400 12 982 [C.byt (fQ o.val),.bool t] (.str (hO o)):=by
 apply fin12 <;> intro t <;> cases t <;> intro m e q <;> kernel_rfl
theorem MQ:∀ (o:Fin 12) (t:Bool),CL 400 12 989 [C.str (hO o),.byt (fQ o.val),.bool t] (.byt (txt (bl o))):=by
 apply fin12 <;> intro t <;> cases t <;> intro m e q <;> kernel_rfl
theorem MS:∀ o:Fin 12,CL 400 12 843 [C.str (hO o),.byt (txt (bl o))] (.byt (fQ o.val)):=by
 apply fin12 <;> intro m e q <;> kernel_rfl
theorem MT:CL 100 9 225 [C.str sB] (.str sB):=by intro m e q;kernel_rfl
theorem MU:CL 100 9 225 [C.str sQ] (.str sQ):=by intro m e q;kernel_rfl
theorem EY:CL 100 9 225 [C.str wCT] (.str wCT):=by intro m e q;kernel_rfl
theorem xC:CL 100 9 225 [C.str wCE] (.str wCE):=by intro m e q;kernel_rfl
theorem JY:CL 100 9 225 [C.str wMV] (.str wMV):=by intro m e q;kernel_rfl
theorem tp2 {a b:Nat} {x y:C} {F:Fm} {H:List O}:AS (.tp [.nm a,.nm b]) (.c (.tup [x,y])) F H ⟨F.d,put b (.c y) (put a (.c x) F.vs)⟩ H:=Ev.a0 fun _ _ k=>k
theorem nbeq {a b:Nat} (h:b≠a):Nat.beq a b=false:=by
 cases q:Nat.beq a b with
 |false=>rfl
 |true=>exact absurd (Nat.eq_of_beq_eq_true q).symm h
theorem kJ {D pre post:List Nat} {c:Nat} (hz:D.length≤1000000) (hD:D=pre++c::post):iX (.byt D) (nat pre.length)=some (nat c):=by
 have ok:okL D=true:=Nat.ble_eq_true_of_le hz
 have h2:D[pre.length]? =some c:=by rw [hD];simp
 exact nQ ok rfl h2
theorem BW {D pre x post:List Nat} (hD:D=pre++x++post):cut D (nat pre.length) (nat (pre.length+x.length))=some x:=by
 have h:=jX (D:=D) (o:=pre.length) (m:=x.length) (by rw [hD];simp)
 rw [show ((pre.length:Int)+(x.length:Int))=((pre.length+x.length:Nat):Int) by lia] at h
 rw [h,hD]
 simp [List.append_assoc]
theorem gD {D pre x post:List Nat} (hz:D.length≤1000000) (hD:D=pre++x++post) {a b:Int} (ha:a=(pre.length:Nat)) (hb:b=((pre.length+x.length:Nat):Int)):j5 (.byt D) (.int a) (.int b)=some (.byt x):=by
 have ok:okL D=true:=Nat.ble_eq_true_of_le hz
 subst ha;subst hb
 have:=BW hD
 exact (if_pos ok).trans (by rw [this];rfl)
noncomputable def crl (rs:List (List Nat)):List Nat:=rs.flatMap fun r=>r++[13,10]
noncomputable abbrev nR:Nat:=zA2
noncomputable abbrev rT:Nat:=zS
noncomputable abbrev kK:Nat:=zAL
noncomputable abbrev kL:Nat:=zY
noncomputable abbrev iE:Nat:=zAI
noncomputable abbrev tM:Nat:=427071139694
noncomputable def rsW:S:=(f296.body[3]?).getD .bad
noncomputable def rsI:S:=((whB rsW)[4]?).getD .bad
theorem xD {D:List Nat} (hz:D.length≤400000) {hi:Nat} (hhi:hi≤D.length) {c:Nat} {post:List Nat} (c1:c≠32) (c2:c≠9):∀ (rs:List (List Nat)) (pre:List Nat) (F:Fm) (H:List O) {d},F.d=d+1→D=pre++crl rs++c::post→(∀ r∈rs,∃ a t,r=a::t∧(a=32∨a=9)∧10∉r)→pre.length+(crl rs).length < hi→
  lk F.vs aY=some (.c (.byt D))→lk F.vs nR=some (.c (nat hi))→lk F.vs iE=some (.c (nat pre.length))→lk F.vs kL=some (.c (.int ((pre.length:Int) - 2)))→
  ∃ F',F'.d=F.d∧(∀ m,m≠kL→m≠iE→lk F'.vs m=lk F.vs m)∧lk F'.vs iE=some (.c (nat (pre.length+(crl rs).length)))∧lk F'.vs kL=some (.c (.int (((pre.length+(crl rs).length:Nat):Int) - 2)))∧WH (whT rsI) (whB rsI) F H .nx F' H:=by
 intro rs
 induction rs with
 |nil=>
  intro pre F H d hd hD hr hlt k1 k2 k3 k4
  have hD':D=pre++c::post:=by rw [hD];simp [crl]
  refine ⟨F,rfl,fun _ _ _=>rfl,by simpa [crl] using k3,by simpa [crl] using k4,nM ?_⟩
  refine dI (b7 (aK (aB k3) (aJ (aB k2) ?_)) (dY (aK (bK (x:=nat c) (aB k1) (aB k3) rfl (kJ (by lia) hD')) (aJ aC ?_))))
  ·refine congrArg some (decide_eq_true ?_)
   simp [crl] at hlt;lia
  ·show some (([32,9]:List Int).contains (c:Int))=some false
   congr 1
   simp;lia
 |cons r rs ih=>
  intro pre F H d hd hD hr hlt k1 k2 k3 k4
  obtain ⟨a,t,rfl,ha,h10⟩:=hr r (by simp)
  have hc:crl ((a::t)::rs)=(a::t)++13::10::crl rs:=by simp [crl]
  have hlen:(crl ((a::t)::rs)).length=(a::t).length+2+(crl rs).length:=by rw [hc];simp;lia
  have la:=hH (D:=D) (pre:=pre) (x:=a::t) (post:=crl rs++c::post) (by lia) (by rw [hD,hc];simp) h10 (hi:=hi) (by lia) hhi (d:=d) (H:=H)
  have hpl:(pre++(a::t)++[13,10]).length=pre.length+(a::t).length+2:=by simp;lia
  let F1:Fm:=⟨F.d,put iE (.c (nat (pre.length+(a::t).length+2))) (put kL (.c (nat (pre.length+(a::t).length))) F.vs)⟩
  obtain ⟨F',e1,e2,e3,e4,e5⟩:=ih (pre++(a::t)++[13,10]) F1 H (d:=d) hd (by rw [hD,hc];simp) (fun z hz=>hr z (List.mem_cons_of_mem _ hz)) (by rw [hpl];lia) (aE rfl (aE rfl k1)) (aE rfl (aE rfl k2)) (by rw [hpl];exact lkp_eq) (by
   refine aE rfl (lkp_eq.trans ?_)
   rw [hpl]
   exact congrArg (fun i=>some (V.c (C.int i))) (by lia))
  rw [hpl] at e3 e4
  refine ⟨F',e1,fun m h1 h2=>(e2 m h1 h2).trans (aE (nbeq h2) (aE (nbeq h1) rfl)),?_,?_,wY (F2:=F1) (H1:=H) (H2:=H) ?_ ?_ e5⟩
  ·rw [e3,hlen];exact congrArg (fun i=>some (V.c (nat i))) (by lia)
  ·rw [e4,hlen];exact congrArg (fun i=>some (V.c (C.int i))) (by lia)
  ·refine dI (b7 (aK (aB k3) (aJ (aB k2) ?_)) (b7 (aK (bK (x:=nat a) (aB k1) (aB k3) rfl (kJ (post:=t++13::10::crl rs++c::post) (by lia) (by rw [hD,hc];simp))) (aJ aC ?_)) eG))
   ·refine congrArg some (decide_eq_true ?_)
    rw [hlen] at hlt;lia
   ·show some (([32,9]:List Int).contains (a:Int))=some true
    congr 1
    simp;lia
  ·refine aH (aG (v:=.c (.tup [nat (pre.length+(a::t).length),nat (pre.length+(a::t).length+2)])) (aF aC (aA (aB k1) (aA (aB k3) (aA (aB k2) aD))) ?_) tp2) a5
   show CA F.d _ _ _ _ _
   rw [hd]
   exact la
noncomputable def fb (i:Fi):List Nat:=nm i++58::(txt (rw' i)++[13,10])
noncomputable def hb (is:List Fi):List Nat:=is.flatMap fb
theorem jY:∀ (r:List Nat) (rs:List (List Nat)),txt (r::rs)++[13,10]=r++13::10::crl rs
 |r,[]=>by simp [txt,crl]
 |r,s::rs=>by
  have:=jY s rs
  simp only [txt,crl,List.flatMap_cons,List.append_assoc,List.cons_append] at this ⊢
  rw [this]
  simp
structure FOk (i:Fi):Prop where
 e:∃ r rs,rw' i=r::rs∧10∉nm i++58::r∧(∀ r∈rs,∃ a t,r=a::t∧(a=32∨a=9)∧10∉r)
 c:58∉nm i
 h:∃ c t,nm i=c::t∧c≠32∧c≠9
theorem eC (i:Fi) (r:List Nat) (c:Nat) (t:List Nat) (e:rw' i=[r]) (h1:10∉nm i++58::r) (h2:58∉nm i) (h3:nm i=c::t) (h4:c≠32) (h5:c≠9):FOk i:=
 ⟨⟨r,[],e,h1,fun _ h=>(List.not_mem_nil h).elim⟩,h2,⟨c,t,h3,h4,h5⟩⟩
theorem jZ (i:Fi) (r s t':List Nat) (a:Nat) (c:Nat) (t:List Nat) (e:rw' i=[r,s]) (hs:s=a::t') (ha:a=32∨a=9) (h0:10∉s) (h1:10∉nm i++58::r) (h2:58∉nm i) (h3:nm i=c::t) (h4:c≠32) (h5:c≠9):FOk i:=
 ⟨⟨r,[s],e,h1,fun x h=>by
  have:x=s:=by simpa using h
  subst this
  exact ⟨a,t',hs,ha,h0⟩⟩,h2,⟨c,t,h3,h4,h5⟩⟩
theorem fok:∀ i,FOk i:=
 fi8 (eC _ _ _ _ rfl (by decide) (by decide) rfl (by decide) (by decide)) (jZ _ _ _ _ _ _ _ rfl rfl (by decide) (by decide) (by decide) (by decide) rfl (by decide) (by decide)) (eC _ _ _ _ rfl (by decide) (by decide) rfl (by decide) (by decide))
  (eC _ _ _ _ rfl (by decide) (by decide) rfl (by decide) (by decide)) (eC _ _ _ _ rfl (by decide) (by decide) rfl (by decide) (by decide)) (eC _ _ _ _ rfl (by decide) (by decide) rfl (by decide) (by decide))
  (eC _ _ _ _ rfl (by decide) (by decide) rfl (by decide) (by decide)) (eC _ _ _ _ rfl (by decide) (by decide) rfl (by decide) (by decide))
  (fin4 (jZ _ _ _ _ _ _ _ rfl rfl (by decide) (by decide) (by decide) (by decide) rfl (by decide) (by decide)) (eC _ _ _ _ rfl (by decide) (by decide) rfl (by decide) (by decide)) (jZ _ _ _ _ _ _ _ rfl rfl (by decide) (by decide) (by decide) (by decide) rfl (by decide) (by decide)) (eC _ _ _ _ rfl (by decide) (by decide) rfl (by decide) (by decide)))
  (fun s k=>by
   refine jZ _ _ _ _ _ _ _ rfl rfl (by decide) ?_ ?_ (by show 58∉rS;decide) rfl (by decide) (by decide)
   ·revert k;exact fin4 (by decide) (by decide) (by decide) (by decide)
   ·show 10∉rS++58::(32::(GB++47::(s3 s++[59])))
    revert s;exact fin3 (by decide) (by decide) (by decide))
theorem nS {i:Fi} {d:Nat} {H:List O} (hd:9≤d):CA d (.c (.obj 253)) [.c (fC i)] H (.c (.str (wd i))) H:=bA (f:=f253) rfl (GC i) hd
theorem xE {i:Fi} {d:Nat} {H:List O} (hd:9≤d):CA d (.c (.obj 316)) [.c (.byt (txt (rw' i)))] H (.c (.byt (un i))) H:=bA (f:=f316) rfl (JN i) hd
theorem BX {i:Fi} {d:Nat} {H:List O} (hd:9≤d):CA d (.c (.obj 281)) [.c (.byt (nm i))] H (.c (.bool true)) H:=bA (f:=f281) rfl (GD i) hd
theorem xF {D pre post:List Nat} {i:Fi} (hz:D.length≤1000000) (hD:D=pre++nm i++58::post) {hi:Nat} (h1:pre.length+(nm i).length+1≤hi) (h2:hi≤D.length) {d:Nat} {H:List O}:
  CA (d+10) (.c (.obj 288)) [.c (.byt D),.c (nat pre.length),.c (nat hi)] H (.c (nat (pre.length+(nm i).length))) H:=by
 have hc:=(fok i).c
 have hfind:(match cZ 58 ((D.take hi).drop pre.length) pre.length with |some i=>(i:Int) |none=> -1)=((pre.length+(nm i).length:Nat):Int):=by
  have e:(D.take hi).drop pre.length=nm i++58::post.take (hi - (pre.length+(nm i).length+1)):=by
   rw [hD,List.append_assoc,List.take_append,List.drop_append,List.take_of_length_le (by lia)]
   simp only [List.drop_length,Nat.sub_self,List.drop_zero,List.nil_append]
   rw [List.take_append,List.take_of_length_le (by lia)]
   congr 1
   rw [show hi - pre.length - (nm i).length=(hi - (pre.length+(nm i).length+1))+1 by lia]
   rfl
  rw [e,eV _ _ _ hc]
  simp [cZ]
 refine aP (F1:=⟨d+9,[(aY,.c (.byt D)),(zA,.c (nat pre.length)),(zI,.c (nat hi)),(zT,.c (nat (pre.length+(nm i).length)))]⟩) (H1:=[]) (f:=f288) rfl rfl rfl ?_
 refine aH (aG (jV (aB rfl) (aB rfl) (aB rfl) hz (by lia) h2 hfind) aX) ?_
 refine aM (aL (b6 (b:=true) (dI (b7 (aK (aB rfl) (aJ aC ?_)) (b7 (cE (v:=.c (.bool true)) rfl (aF aC (aA (dH (x:=.byt (nm i)) (aB rfl) (aB rfl) (aB rfl) rfl (gD (by lia) hD rfl rfl)) aD) (BX (by show 9≤d+9;lia))) rfl) eG))) (aB rfl)))
 exact congrArg some (decide_eq_true (by lia))
noncomputable def gQ (o:Nat):List Fi→List C
 | []=>[]
 |i::is=>.tup [fC i,nat o,nat (o+(fb i).length)]::gQ (o+(fb i).length) is
theorem xG {D:List Nat} (hz:D.length≤400000) {hi:Nat} (hhi:hi≤D.length) {post:List Nat}:∀ (is:List Fi) (pre:List Nat) (F:Fm) (H:List O) (acc:List C) {d},F.d=d+11→D=pre++hb is++13::10::post→pre.length+(hb is).length+2≤hi→acc.length+is.length < 1000→
  lk F.vs aY=some (.c (.byt D))→lk F.vs nR=some (.c (nat hi))→lk F.vs kK=some (.c (nat pre.length))→lk F.vs rT=some (.r 0)→H[0]? =some (.lst acc)→
  ∃ F' H',WH (whT rsW) (whB rsW) F H (.rt (.t [.r 0,.c (nat (pre.length+(hb is).length+2))])) F' H'∧H'[0]? =some (.lst (acc++gQ pre.length is)):=by
 intro is
 induction is with
 |nil=>
  intro pre F H acc d hd hD hlt ha k1 k2 k3 k4 hn
  have hD':D=pre++[]++13::10::post:=by rw [hD];simp [hb]
  have hlt':pre.length+0+2≤hi:=by simpa [hb] using hlt
  have la:=hH (D:=D) (pre:=pre) (x:=[]) (post:=post) (by lia) hD' (by simp) (hi:=hi) (by simpa using hlt') hhi (d:=d+10) (H:=H)
  refine ⟨_,H,wZ (H1:=H) ?_ (aH (H1:=H) (aG (v:=.c (.tup [nat (pre.length+0),nat (pre.length+0+2)])) (aF aC (aA (aB k1) (aA (aB k3) (aA (aB k2) aD))) ?_) tp2) (aM (aQ (b:=true) (aK (aB (aE rfl lkp_eq)) (aJ (aB (aE rfl (aE rfl k3))) ?_)) (aM (aL (a7 rfl (aA (aB (aE rfl (aE rfl k4))) (aA (aB lkp_eq) aD)) ?_)))))),?_⟩
  ·refine aK (aB k3) (aJ (aB k2) ?_)
   exact congrArg some (decide_eq_true (by lia))
  ·show CA F.d _ _ _ _ _
   rw [hd]
   exact la
  ·show some ((pre.length+0:Int) == (pre.length:Int))=some true
   simp
  ·rfl
  ·rw [hn];simp [gQ]
 |cons i is ih=>
  intro pre F H acc d hd hD hlt ha k1 k2 k3 k4 hn
  obtain ⟨r,rs,er,h10,hrs⟩:=(fok i).e
  have hfb:fb i=(nm i++58::r)++13::10::crl rs:=by
   unfold fb
   rw [er,jY];simp
  have hbc:hb (i::is)=fb i++hb is:=by simp [hb]
  have hraw:(txt (rw' i)).length+2=r.length+2+(crl rs).length:=by
   have:=congrArg List.length (jY r rs)
   rw [er]
   simp only [List.length_append,List.length_cons,List.length_nil] at this
   lia
  have hfl:(fb i).length=(nm i).length+1+r.length+2+(crl rs).length:=by rw [hfb];simp;lia
  have hlt2:pre.length+(fb i).length+(hb is).length+2≤hi:=by rw [hbc,List.length_append] at hlt;lia
  have la:=hH (D:=D) (pre:=pre) (x:=nm i++58::r) (post:=crl rs++hb is++13::10::post) (by lia) (by rw [hD,hbc,hfb];simp) h10 (hi:=hi) (by simp;lia) hhi (d:=d+10) (H:=H)
  let x1:Nat:=pre.length+(nm i++58::r).length
  have hx1:x1=pre.length+(nm i).length+1+r.length:=by show pre.length+(nm i++58::r).length=_;simp;lia
  let F1:Fm:=⟨F.d,put iE (.c (nat (x1+2))) (put kL (.c (nat x1)) F.vs)⟩
  let F2:Fm:=⟨F.d,put tM (.c (nat (pre.length+(nm i).length))) F1.vs⟩
  have co:=xF (D:=D) (pre:=pre) (i:=i) (post:=r++13::10::crl rs++hb is++13::10::post) (by lia) (by rw [hD,hbc,hfb];simp) (hi:=x1) (by lia) (by lia) (d:=d+1) (H:=H)
  obtain ⟨c,pst,hc,c1,c2⟩:∃ c pst,hb is++13::10::post=c::pst∧c≠32∧c≠9:=by
   cases is with
   |nil=>exact ⟨13,10::post,by simp [hb],by decide,by decide⟩
   |cons j js=>
    obtain ⟨c,t,e,c1,c2⟩:=(fok j).h
    refine ⟨c,t++58::(txt (rw' j)++[13,10])++hb js++13::10::post,?_,c1,c2⟩
    simp [hb,fb,e]
  have hpl:(pre++(nm i++58::r)++[13,10]).length=x1+2:=by rw [List.length_append,List.length_append];rfl
  obtain ⟨F3,e1,e2,e3,e4,e5⟩:=xD hz hhi c1 c2 rs (pre++(nm i++58::r)++[13,10]) F2 H (d:=d+10) hd (by rw [hD,hbc,hfb,← hc];simp) hrs (by rw [hpl];lia) (aE rfl (aE rfl (aE rfl k1))) (aE rfl (aE rfl (aE rfl k2))) (by rw [hpl];exact aE rfl lkp_eq) (by
   refine aE rfl (aE rfl (lkp_eq.trans ?_))
   rw [hpl]
   exact congrArg (fun i=>some (V.c (C.int i))) (by lia))
  rw [hpl] at e3 e4
  have k1':lk F3.vs aY=some (.c (.byt D)):=(e2 _ (by decide) (by decide)).trans (aE rfl (aE rfl (aE rfl k1)))
  have k2':lk F3.vs nR=some (.c (nat hi)):=(e2 _ (by decide) (by decide)).trans (aE rfl (aE rfl (aE rfl k2)))
  have k3':lk F3.vs kK=some (.c (nat pre.length)):=(e2 _ (by decide) (by decide)).trans (aE rfl (aE rfl (aE rfl k3)))
  have k4':lk F3.vs rT=some (.r 0):=(e2 _ (by decide) (by decide)).trans (aE rfl (aE rfl (aE rfl k4)))
  have k5':lk F3.vs tM=some (.c (nat (pre.length+(nm i).length))):=(e2 _ (by decide) (by decide)).trans lkp_eq
  have hpf:(pre++fb i).length=pre.length+(fb i).length:=by simp
  obtain ⟨F',H',w,hw⟩:=ih (pre++fb i) ⟨F3.d,put kK (.c (nat (x1+2+(crl rs).length))) F3.vs⟩ (H.set 0 (.lst (acc++[.tup [fC i,nat pre.length,nat (x1+2+(crl rs).length)]]))) (acc++[.tup [fC i,nat pre.length,nat (x1+2+(crl rs).length)]]) (d:=d) (e1.trans hd) (by rw [hD,hbc];simp) (by rw [hpf];lia) (by simp at ha ⊢;lia)
   (aE rfl k1') (aE rfl k2') (by rw [hpf];exact lkp_eq.trans (congrArg (fun i=>some (V.c (nat i))) (by lia))) (aE rfl k4') (jW hn)
  rw [hpf] at w hw
  refine ⟨F',H',wY (H1:=H) (F2:=⟨F3.d,put kK (.c (nat (x1+2+(crl rs).length))) F3.vs⟩) (H2:=H.set 0 (.lst (acc++[.tup [fC i,nat pre.length,nat (x1+2+(crl rs).length)]]))) ?_ ?_ (by rw [hbc,List.length_append,← Nat.add_assoc];exact w),?_⟩
  ·refine aK (aB k3) (aJ (aB k2) ?_)
   exact congrArg some (decide_eq_true (by lia))
  ·refine aH (F1:=F1) (H1:=H) (aG (v:=.c (.tup [nat x1,nat (x1+2)])) (aF aC (aA (aB k1) (aA (aB k3) (aA (aB k2) aD))) (by show CA F.d _ _ _ _ _;rw [hd];exact la)) tp2) ?_
   refine aH (F1:=F1) (H1:=H) (aQ (b:=false) (aK (aB (aE rfl lkp_eq)) (aJ (aB (aE rfl (aE rfl k3))) ?_)) a5) ?_
   ·show some ((x1:Int) == (pre.length:Int))=some false
    refine congrArg some (beq_eq_false_iff_ne.mpr ?_)
    lia
   refine aH (F1:=F2) (H1:=H) (aG (v:=.c (nat (pre.length+(nm i).length))) (aF aC (aA (aB (aE rfl (aE rfl k1))) (aA (aB (aE rfl (aE rfl k3))) (aA (aB (aE rfl lkp_eq)) aD))) (by show CA F.d _ _ _ _ _;rw [hd];exact co)) aX) ?_
   refine aH (F1:=F2) (H1:=H) (aQ (b:=false) (aK (aB lkp_eq) (aJ aC ?_)) a5) ?_
   ·exact congrArg some (decide_eq_false (by lia))
   refine aH (F1:=F3) (H1:=H) (e7 e5) ?_
   refine aH (F1:=F3) (eQ (mH (aB k4') hn (a7 (v:=.c (.tup [fC i,nat pre.length,nat (x1+2+(crl rs).length)])) rfl (aA (aF (v:=.c (fC i)) aC (aA (dH (x:=.byt (nm i)) (aB k1') (aB k3') (aB k5') rfl ?_) (aA (dH (x:=.byt (txt (rw' i))) (aB k1') (aW (aB k5') aC rfl) (aB e4) rfl ?_) aD)) ?_) (aA (aB k3') (aA (aB e3) aD))) rfl) hn ?_)) ?_
   ·exact gD (pre:=pre) (x:=nm i) (post:=58::(txt (rw' i)++[13,10])++hb is++13::10::post) (by lia) (by rw [hD,hbc];simp [fb]) rfl rfl
   ·refine gD (pre:=pre++nm i++[58]) (x:=txt (rw' i)) (post:=[13,10]++hb is++13::10::post) (by lia) (by rw [hD,hbc];simp [fb]) ?_ ?_
    ·show ((pre.length+(nm i).length:Nat):Int)+1=_
     rw [List.length_append,List.length_append]
     show _=((pre.length+(nm i).length+1:Nat):Int)
     lia
    ·simp;lia
   ·show CA F3.d _ _ _ _ _
    rw [e1,hd]
    exact dP (ps:=[zK,zAB]) (ds:=[]) rfl rfl rfl rfl
   ·show acc.length < 1000000
    lia
   ·exact aH (aG (aB e3) aX) a5
  ·rw [hw,List.append_assoc,gQ]
   congr 3
   simp only [List.cons_append,List.nil_append]
   rw [show x1+2+(crl rs).length=pre.length+(fb i).length by lia]
theorem l9 {D pre post:List Nat} {is:List Fi} (hz:D.length≤400000) (hD:D=pre++hb is++13::10::post) {hi:Nat} (h1:pre.length+(hb is).length+2≤hi) (hhi:hi≤D.length) (hn:is.length < 900) {d:Nat} (hd:12≤d) {H:List O}:
  CA d (.c (.obj 296)) [.c (.byt D),.c (nat pre.length),.c (nat hi)] H (.c (.tup [.lst (gQ pre.length is),nat (pre.length+(hb is).length+2)])) H:=by
 obtain ⟨d,rfl⟩:∃ e,d=e+12:=⟨d - 12,by lia⟩
 obtain ⟨F',H',w,hw⟩:=xG hz hhi (post:=post) is pre ⟨d+11,[(aY,.c (.byt D)),(zA,.c (nat pre.length)),(zI,.c (nat hi)),(nR,.c (nat hi)),(rT,.r 0),(kK,.c (nat pre.length))]⟩ [.lst []] [] (d:=d) rfl hD h1 (by simp;lia) rfl rfl rfl rfl rfl
 rw [List.nil_append] at hw
 refine jH (f:=f296) rfl rfl rfl (aH (aG (v:=.c (nat hi)) (b6 (b:=false) (aK (aB rfl) (aJ aC ?_)) (aB rfl)) aX) (aH (e6 rfl aD rfl) (aH (aG (aB rfl) aX) (aM (e7 w))))) ?_
 ·exact congrArg some (decide_eq_false (by lia))
 ·simp only [back,back.go,view,hw];rfl
theorem jJ {H:List O}:∀ (is:List Fi) (o:Nat) (F:Fm),CP (.idx (.var 7499639) (.con (.int 0))) (.nm 7499639) [] (gQ o is) F H (is.map fC) H
 | [],o,F=>b8
 |i::is,o,F=>dA aX bE (bK (x:=fC i) (aB lkp_eq) aC rfl rfl) (jJ is _ _)
theorem mJ:∀ (is:List Fi) (o:Nat),(gQ o is).length=is.length
 | [],o=>rfl
 |i::is,o=>by simp [gQ,mJ is]
theorem okL_le {α:Type} {l:List α} (h:l.length≤1000000):okL l=true:=Nat.ble_eq_true_of_le h
theorem kM {D pre post:List Nat} {is:List Fi} (hz:D.length≤400000) (hD:D=pre++hb is++13::10::post) {hi:Nat} (h1:pre.length+(hb is).length+2≤hi) (hhi:hi≤D.length) (hn:is.length < 900) {d:Nat} (hd:13≤d) {H:List O}:
  CA d (.c (.obj 302)) [.c (.byt D),.c (nat pre.length),.c (nat hi)] H (.c (.tup [.lst (is.map fC),nat (pre.length+(hb is).length+2)])) H:=by
 obtain ⟨d,rfl⟩:∃ e,d=e+13:=⟨d - 13,by lia⟩
 have hl:(gQ pre.length is).length≤1000000:=by rw [mJ];lia
 have hk:=okL_le hl
 exact aP (f:=f302) (H1:=[]) rfl rfl rfl (aH (aG (aF aC (aA (aB rfl) (aA (aB rfl) (aA (aB rfl) aD))) (l9 hz hD h1 hhi hn (by show 12≤d+12;lia))) tp2)
  (aM (aL (a7 rfl (aA (cK (x:=.lst (gQ pre.length is)) (aB rfl) (if_pos hk) hl (jJ is _ _)) (aA (aB rfl) aD)) rfl))))
noncomputable def fst' (w:List Nat):List Fi→C
 | []=>.none
 |i::is=>if (wd i == w)=true then .byt (un i) else fst' w is
noncomputable def fbS:S:=(f323.body[1]?).getD .bad
noncomputable abbrev fZ:Nat:=131260348654948
noncomputable abbrev bX:Nat:=zX
theorem tN {w:List Nat} {H:List O}:∀ (is:List Fi) (F:Fm) {d},F.d=d→9≤d→lk F.vs fZ=some (.c (.str w))→
  ∃ fl F',LP (lpT fbS) (lpB fbS) (is.map fC) F H fl F' H∧(fl= .rt (.c (fst' w is))∨(fl= .nx∧fst' w is= .none))
 | [],F,d,hd,h9,k=>⟨.nx,F,w0,.inr ⟨rfl,rfl⟩⟩
 |i::is,F,d,hd,h9,k=>by
  have t:TS (.cmp (.met (.var bX) zQ []) [.Eq] [.var fZ]) ⟨F.d,put bX (.c (fC i)) F.vs⟩ H (wd i == w) H:=by
   refine aK (c9 (c:=263) (a:=253) (aB lkp_eq) rfl rfl rfl aD (nS (by show 9≤F.d;lia))) (aJ (aB (aE rfl k)) rfl)
  cases q:wd i == w with
  |true=>
   rw [q] at t
   refine ⟨_,_,EP (v:=.c (.byt (un i))) aX (aM (aQ (b:=true) t (aM (aL (aF aC (aA (aZ (aB lkp_eq) rfl rfl rfl) aD) ?_))))),.inl ?_⟩
   ·exact xE (by show 9≤F.d;lia)
   ·simp [fst',q]
  |false=>
   rw [q] at t
   obtain ⟨fl,F',h1,h2⟩:=tN is ⟨F.d,put bX (.c (fC i)) F.vs⟩ (d:=d) hd h9 (aE rfl k)
   refine ⟨fl,F',vG aX (aH (aQ (b:=false) t a5) a5) h1,?_⟩
   simpa [fst',q] using h2
theorem eR {w:List Nat} (hw:CL 100 9 225 [C.str w] (.str w)) {is:List Fi} (hn:is.length < 900) {d:Nat} (hd:11≤d) {H:List O}:
  CA d (.c (.obj 323)) [.c (.lst (is.map fC)),.c (.str w)] H (.c (fst' w is)) H:=by
 obtain ⟨d,rfl⟩:∃ e,d=e+11:=⟨d - 11,by lia⟩
 have hk:okL (is.map fC)=true:=okL_le (by rw [List.length_map];lia)
 obtain ⟨fl,F',h1,h2⟩:=tN (w:=w) (H:=[]) is ⟨d+10,[(zF,.c (.lst (is.map fC))),(zQ,.c (.str w)),(fZ,.c (.str w))]⟩ (d:=d+10) rfl (by lia) rfl
 have s2:ST fbS ⟨d+10,[(zF,.c (.lst (is.map fC))),(zQ,.c (.str w)),(fZ,.c (.str w))]⟩ [] fl F' []:=nN (aB rfl) (if_pos hk) h1
 have s0:ST f323.body[0] ⟨d+10,[(zF,.c (.lst (is.map fC))),(zQ,.c (.str w))]⟩ [] .nx ⟨d+10,[(zF,.c (.lst (is.map fC))),(zQ,.c (.str w)),(fZ,.c (.str w))]⟩ []:=
  aG (v:=.c (.str w)) (aF aC (aA (aB rfl) aD) (bA (f:=f225) rfl hw (by show 9≤d+10;lia))) aX
 rcases h2 with rfl | ⟨rfl,h2⟩
 ·exact aP (f:=f323) rfl rfl rfl (aH s0 (aM s2))
 ·rw [h2]
  exact aP (f:=f323) rfl rfl rfl (aH s0 (aH s2 (aM (aL aC))))
noncomputable def fR (i:Fi):Bool:= !([wCT,wCE,wMV].contains (wd i))
noncomputable def owC:C:=.tup [.str wCT,.str wCE,.str wMV]
noncomputable abbrev kN:Nat:=zA3
theorem tO {H:List O}:∀ (is:List Fi) (F:Fm) {d},F.d=d→9≤d→lk F.vs kN=some (.c (.lst [.str wCT,.str wCE,.str wMV]))→
  CP (.var bX) (.nm bX) [.cmp (.met (.var bX) zQ []) [.NotIn] [.var kN]] (is.map fC) F H ((is.filter fR).map fC) H
 | [],F,d,hd,h9,k=>b8
 |i::is,F,d,hd,h9,k=>by
  have t:TS (.cmp (.met (.var bX) zQ []) [.NotIn] [.var kN]) ⟨F.d,put bX (.c (fC i)) F.vs⟩ H (fR i) H:=
   aK (c9 (c:=263) (a:=253) (aB lkp_eq) rfl rfl rfl aD (nS (by show 9≤F.d;lia))) (aJ (aB (aE rfl k)) rfl)
  have rest:=tO (H:=H) is ⟨F.d,put bX (.c (fC i)) F.vs⟩ (d:=d) hd h9 (aE rfl k)
  rw [List.filter_cons]
  cases q:fR i with
  |true=>rw [q] at t;exact dA aX (pH t bE) (aB lkp_eq) rest
  |false=>rw [q] at t;exact BP aX (tD t) rest
theorem GF {F:Fm} {H:List O} {d:Nat} (hd:F.d=d) (h9:9≤d):CP (.cal (.con (.obj 225)) [.var zQ]) (.nm zQ) [] [.str wCT,.str wCE,.str wMV] F H [.str wCT,.str wCE,.str wMV] H:=
 dA aX bE (aF aC (aA (aB lkp_eq) aD) (bA (f:=f225) rfl EY (by show 9≤F.d;lia)))
  (dA aX bE (aF aC (aA (aB lkp_eq) aD) (bA (f:=f225) rfl xC (by show 9≤F.d;lia)))
   (dA aX bE (aF aC (aA (aB lkp_eq) aD) (bA (f:=f225) rfl JY (by show 9≤F.d;lia))) b8))
theorem rU {is:List Fi} (hn:is.length < 900) {d:Nat} (hd:11≤d) {H:List O}:
  CA d (.c (.obj 328)) [.c (.lst (is.map fC)),.c owC] H (.c (.lst ((is.filter fR).map fC))) H:=by
 obtain ⟨d,rfl⟩:∃ e,d=e+11:=⟨d - 11,by lia⟩
 have hl:(is.map fC).length≤1000000:=by rw [List.length_map];lia
 have hk:=okL_le hl
 exact aP (f:=f328) (d:=d+10) (H1:=[]) rfl rfl rfl (aH (nO (x:=owC) (cs:=[.str wCT,.str wCE,.str wMV]) (aB rfl) rfl (by show 3≤1000000;lia) (GF rfl (by show 9≤d+10;lia)))
  (aM (aL (cK (x:=.lst (is.map fC)) (aB rfl) (if_pos hk) hl (tO is _ rfl (by show 9≤d+10;lia) rfl)))))
noncomputable def tdF (i:Fi):C:=.tup [.str (wd i),.byt (un i)]
theorem tP {H:List O}:∀ (is:List Fi) (F:Fm) {d},F.d=d→9≤d→
  CP (.tup [.met (.var bX) zQ [],.cal (.con (.obj 316)) [.atr (.var bX) zAB]]) (.nm bX) [] (is.map fC) F H (is.map tdF) H
 | [],F,d,hd,h9=>b8
 |i::is,F,d,hd,h9=>
  dA aX bE (a7 rfl (aA (c9 (c:=263) (a:=253) (aB lkp_eq) rfl rfl rfl aD (nS (i:=i) (by show 9≤F.d;lia))) (aA (aF aC (aA (aZ (aB lkp_eq) rfl rfl rfl) aD) (xE (i:=i) (by show 9≤F.d;lia))) aD)) rfl) (tP is _ (d:=d) hd h9)
theorem iF {c:C} {is:List Fi} (hc:eP c=some (is.map fC)) (hn:is.length < 900) {d:Nat} (hd:11≤d) {H:List O}:
  CA d (.c (.obj 856)) [.c c] H (.c (.tup (is.map tdF))) H:=by
 obtain ⟨d,rfl⟩:∃ e,d=e+11:=⟨d - 11,by lia⟩
 have hl:(is.map fC).length≤1000000:=by rw [List.length_map];lia
 have hk:okL (is.map tdF)=true:=okL_le (by rw [List.length_map];lia)
 refine aP (f:=f856) (d:=d+10) (H1:=[]) rfl rfl rfl (aM (aL (aF aC (aA (cK (x:=c) (aB rfl) hc hl (tP is _ rfl (by show 9≤d+10;lia))) aD) (bZ (cs:=[.lst (is.map tdF)]) rfl ?_))))
 exact if_pos hk
theorem i1 {is:List Fi} (hn:is.length < 900):eP (.lst (is.map fC))=some (is.map fC):=by
 have hk:okL (is.map fC)=true:=okL_le (by rw [List.length_map];lia)
 exact if_pos hk
theorem gE {is:List Fi} (hn:is.length < 900):eP (.tup (is.map fC))=some (is.map fC):=by
 have hk:okL (is.map fC)=true:=okL_le (by rw [List.length_map];lia)
 exact if_pos hk
noncomputable def bnd (bs:List (List (List Nat))):Fin 4:=
 if dN bs 0=false then ⟨0,by decide⟩ else if dN bs 1=false then ⟨1,by decide⟩ else if dN bs 2=false then ⟨2,by decide⟩ else ⟨3,by decide⟩
noncomputable def kP (ex:List Fi) (q:List Fi × List (List Nat)):List (List Nat):=hl (ex++q.1)++[]::q.2
noncomputable def i3:P→List Fi × List (List Nat)
 | .leaf k o f=>(.ct k::(kI o++fI f),bl o)
 | .one s f p=>(.cm s (bnd [kP [] (i3 p)])::fI f,jl (bnd [kP [] (i3 p)]).val [kP [] (i3 p)])
 | .two s f p q=>(.cm s (bnd [kP [] (i3 p),kP [] (i3 q)])::fI f,jl (bnd [kP [] (i3 p),kP [] (i3 q)]).val [kP [] (i3 p),kP [] (i3 q)])
 | .ltr f p=>([.cl],kP (fI f++[Fi.mv]) (i3 p))
noncomputable def aT (p:P):List Fi:=(i3 p).1
noncomputable def bdP (p:P):List (List Nat):=(i3 p).2
noncomputable def lnX (ex:List Fi) (p:P):List (List Nat):=kP ex (i3 p)
theorem kQ (ex:List Fi) (p:P):lnX ex p=hl (ex++aT p)++[]::bdP p:=rfl
noncomputable def dp:P→Nat
 | .leaf _ _ _=>0
 | .one _ _ p=>1+dp p
 | .two _ _ p q=>1+max (dp p) (dp q)
 | .ltr _ p=>1+dp p
theorem JZ:∀ o,bl o≠[]:=fin12 (by decide) (by decide) (by decide) (by decide) (by decide) (by decide) (by decide) (by decide) (by decide) (by decide) (by decide) (by decide)
theorem f0 {ex p}:lnX ex p≠[]:=by rw [kQ];simp
theorem GH:∀ p,bdP p≠[]
 | .leaf k o f=>JZ o
 | .one s f p=>kG
 | .two s f p q=>kG
 | .ltr f p=>f0 (ex:=fI f++[Fi.mv]) (p:=p)
theorem tQ:∀ (ls rest:List (List Nat)),rest≠[]→txt (ls++rest)=crl ls++txt rest
 | [],rest,h=>rfl
 |x::ls,rest,h=>by
  have ih:=tQ ls rest h
  cases hc:ls++rest with
  |nil=>simp [h] at hc
  |cons y t=>
   rw [List.cons_append,hc]
   simp only [txt]
   rw [← hc,ih]
   simp [crl]
theorem xH (i:Fi):crl (fl i)=fb i:=by
 obtain ⟨r,rs,er,_,_⟩:=(fok i).e
 unfold fl fb
 rw [er,jY]
 simp [crl]
theorem BY (a b:List (List Nat)):crl (a++b)=crl a++crl b:=by simp [crl]
theorem rV:∀ is,crl (hl is)=hb is
 | []=>rfl
 |i::is=>by
  have:=rV is
  simp only [hl,hb,List.flatMap_cons] at this ⊢
  rw [BY,this,xH]
theorem xJ {is:List Fi} {b:List (List Nat)} (h:b≠[]):txt (hl is++[]::b)=hb is++13::10::txt b:=by
 rw [tQ _ _ (by simp),rV]
 cases b with
 |nil=>exact absurd rfl h
 |cons y b=>rfl
theorem bY (ex:List Fi) (p:P):txt (lnX ex p)=hb (ex++aT p)++13::10::txt (bdP p):=by
 rw [kQ,xJ (GH p)]
noncomputable def c7 (x:List Nat):Bool:=Nat.ble x.length 78 && x.all fun c=>Nat.ble 1 c && Nat.ble c 127 && !(Nat.beq c 10) && !(Nat.beq c 13)
theorem BZ:∀ i,(fl i).all c7=true:=
 fi8 rfl rfl rfl rfl rfl rfl rfl rfl (fin4 rfl rfl rfl rfl) (fin3 (fin4 rfl rfl rfl rfl) (fin4 rfl rfl rfl rfl) (fin4 rfl rfl rfl rfl))
theorem B1 {is:List Fi} {x:List Nat} (h:x∈hl is):c7 x=true:=by
 obtain ⟨i,_,hx⟩:=List.mem_flatMap.mp h
 exact List.all_eq_true.mp (BZ i) x hx
theorem B2:∀ o,(bl o).all c7=true:=fin12 rfl rfl rfl rfl rfl rfl rfl rfl rfl rfl rfl rfl
theorem B3:∀ k:Fin 4,c7 (aN k.val)=true:=fin4 rfl rfl rfl rfl
theorem xK:∀ k:Fin 4,c7 (aN k.val++[45,45])=true:=fin4 rfl rfl rfl rfl
theorem j0 {k:Fin 4}:∀ {bs:List (List (List Nat))},(∀ ls∈bs,∀ x∈ls,c7 x=true)→∀ x∈jl k.val bs,c7 x=true
 | [],h,x,hx=>by
  simp only [jl,List.mem_cons,List.not_mem_nil,or_false] at hx
  rcases hx with rfl |rfl
  ·exact xK k
  ·rfl
 |ls::bs,h,x,hx=>by
  simp only [jl,List.mem_cons,List.mem_append] at hx
  rcases hx with rfl |hx |hx
  ·exact B3 k
  ·exact h ls (by simp) x hx
  ·exact j0 (fun l hl=>h l (List.mem_cons_of_mem _ hl)) x hx
theorem nU:∀ (p:P) (ex:List Fi) (x:List Nat),x∈lnX ex p→c7 x=true:=by
 have key:∀ (p:P),(∀ x∈bdP p,c7 x=true)→∀ (ex:List Fi) (x:List Nat),x∈lnX ex p→c7 x=true:=by
  intro p h ex x hx
  rw [kQ] at hx
  simp only [List.mem_append,List.mem_cons] at hx
  rcases hx with hx |rfl |hx
  ·exact B1 hx
  ·rfl
  ·exact h x hx
 intro p
 induction p with
 |leaf k o f=>exact key _ (fun x hx=>List.all_eq_true.mp (B2 o) x hx)
 |one s f p ih=>exact key _ (j0 (k:=bnd [lnX [] p]) (bs:=[lnX [] p]) (by simpa using ih []))
 |two s f p q ih1 ih2=>exact key _ (j0 (k:=bnd [lnX [] p,lnX [] q]) (bs:=[lnX [] p,lnX [] q]) (by
   intro ls hls
   simp only [List.mem_cons,List.not_mem_nil,or_false] at hls
   rcases hls with rfl |rfl
   ·exact ih1 []
   ·exact ih2 []))
 |ltr f p ih=>exact key _ (ih (fI f++[Fi.mv]))
theorem nV {x:List Nat} (h:c7 x=true):10∉x:=by
 intro hx
 unfold c7 at h
 rw [Bool.and_eq_true] at h
 have:=List.all_eq_true.mp h.2 10 hx
 exact absurd this (by decide)
theorem tS {x:List Nat} (h:c7 x=true):13∉x:=by
 intro hx
 unfold c7 at h
 rw [Bool.and_eq_true] at h
 have:=List.all_eq_true.mp h.2 13 hx
 exact absurd this (by decide)
theorem nW {x:List Nat} (h:c7 x=true):x.length≤78:=by
 unfold c7 at h
 rw [Bool.and_eq_true] at h
 exact Nat.le_of_ble_eq_true h.1
theorem GI {x:List Nat} (h:c7 x=true):∀ c∈x,1≤c∧c≤127:=by
 intro c hc
 unfold c7 at h
 rw [Bool.and_eq_true] at h
 have:=List.all_eq_true.mp h.2 c hc
 simp only [Bool.and_eq_true] at this
 exact ⟨Nat.le_of_ble_eq_true this.1.1.1,Nat.le_of_ble_eq_true this.1.1.2⟩
theorem B4 {j:Nat} {x:List Nat} (h:aR (aN j) x=true):x.head? =some 45:=by
 unfold aR at h
 have e:x.take (aN j).length=aN j:=eq_of_beq h
 cases x with
 |nil=>simp [aN] at e
 |cons a x=>
  have e':a::x.take 8=45::45::bstr j:=e
  injection e' with e1 _
  simp [e1]
theorem J0:∀ i,(fl i).all (fun x=>x.head? !=some 45)=true:=
 fi8 rfl rfl rfl rfl rfl rfl rfl rfl (fin4 rfl rfl rfl rfl) (fin3 (fin4 rfl rfl rfl rfl) (fin4 rfl rfl rfl rfl) (fin4 rfl rfl rfl rfl))
theorem J1 {is:List Fi} {x:List Nat} (h:x∈hl is) {j:Nat}:aR (aN j) x=false:=by
 cases q:aR (aN j) x with
 |false=>rfl
 |true=>
  obtain ⟨i,_,hx⟩:=List.mem_flatMap.mp h
  have:=List.all_eq_true.mp (J0 i) x hx
  rw [B4 q] at this
  simp at this
theorem J2:∀ o,∀ j,j < 10→(bl o).any (aR (aN j))=true→j < 2:=
 fin12 (by decide) (by decide) (by decide) (by decide) (by decide) (by decide) (by decide) (by decide) (by decide) (by decide) (by decide) (by decide)
theorem J3 {j k:Nat} (h:aR (aN j) (aN k)=true):j=k:=by
 unfold aR at h
 have e:[45,45,61,95,112,97,114,116,48+k]=[45,45,61,95,112,97,114,116,48+j]:=eq_of_beq h
 simp at e
 lia
theorem GJ {j k:Nat} (h:aR (aN j) (aN k++[45,45])=true):j=k:=by
 unfold aR at h
 have e:[45,45,61,95,112,97,114,116,48+k]=[45,45,61,95,112,97,114,116,48+j]:=eq_of_beq h
 simp at e
 lia
theorem xL {k n:Nat} (hk:k < n):∀ {bs:List (List (List Nat))},(∀ ls∈bs,∀ x∈ls,∀ j,j < 10→aR (aN j) x=true→j < n)→∀ x∈jl k bs,∀ j,j < 10→aR (aN j) x=true→j < n
 | [],h,x,hx,j,hj,hs=>by
  simp only [jl,List.mem_cons,List.not_mem_nil,or_false] at hx
  rcases hx with rfl |rfl
  ·rw [GJ hs];exact hk
  ·cases hs
 |ls::bs,h,x,hx,j,hj,hs=>by
  simp only [jl,List.mem_cons,List.mem_append] at hx
  rcases hx with rfl |hx |hx
  ·rw [J3 hs];exact hk
  ·exact h ls (by simp) x hx j hj hs
  ·exact xL hk (fun l hl=>h l (List.mem_cons_of_mem _ hl)) x hx j hj hs
theorem nX {bs:List (List (List Nat))} {n j:Nat} (hj:j < 10) (h:∀ ls∈bs,∀ x∈ls,∀ j,j < 10→aR (aN j) x=true→j < n) (hn:n≤j):dN bs j=false:=by
 cases q:dN bs j with
 |false=>rfl
 |true=>
  unfold dN at q
  obtain ⟨ls,hls,q⟩:=List.any_eq_true.mp q
  obtain ⟨x,hx,q⟩:=List.any_eq_true.mp q
  have:=h ls hls x hx j hj q
  lia
theorem xM {bs:List (List (List Nat))} {j:Nat} (h:dN bs j=false):(bnd bs).val≤j:=by
 unfold bnd
 split
 ·exact Nat.zero_le _
 ·rename_i h0
  split
  ·show 1≤j
   by_cases q:j=0
   ·subst q;exact absurd h h0
   ·lia
  ·rename_i h1
   split
   ·show 2≤j
    by_cases q:j=0
    ·subst q;exact absurd h h0
    ·by_cases q:j=1
     ·subst q;exact absurd h h1
     ·lia
   ·rename_i h2
    show 3≤j
    by_cases q:j=0
    ·subst q;exact absurd h h0
    ·by_cases q:j=1
     ·subst q;exact absurd h h1
     ·by_cases q:j=2
      ·subst q;exact absurd h h2
      ·lia
theorem GK {bs:List (List (List Nat))} (h:dN bs 3=false):dN bs (bnd bs).val=false∧∀ i,i < (bnd bs).val→dN bs i=true:=by
 have tr:∀ {b:Bool},¬(b=false)→b=true:=fun {b} h=>by cases b <;> simp_all
 unfold bnd
 split
 ·rename_i h0;exact ⟨h0,fun i hi=>absurd hi (Nat.not_lt_zero i)⟩
 ·rename_i h0
  split
  ·rename_i h1
   refine ⟨h1,fun i hi=> ?_⟩
   have:i < 1:=hi
   have:i=0:=by lia
   subst this;exact tr h0
  ·rename_i h1
   split
   ·rename_i h2
    refine ⟨h2,fun i hi=> ?_⟩
    have:i < 2:=hi
    have:i=0∨i=1:=by lia
    rcases this with rfl |rfl
    ·exact tr h0
    ·exact tr h1
   ·rename_i h2
    refine ⟨h,fun i hi=> ?_⟩
    have:i < 3:=hi
    have:i=0∨i=1∨i=2:=by lia
    rcases this with rfl |rfl |rfl
    ·exact tr h0
    ·exact tr h1
    ·exact tr h2
theorem EZ:∀ (p:P) (ex:List Fi),∀ x∈lnX ex p,∀ j,j < 10→aR (aN j) x=true→j < 2+dp p:=by
 have key:∀ (p:P),(∀ x∈bdP p,∀ j,j < 10→aR (aN j) x=true→j < 2+dp p)→∀ (ex:List Fi),∀ x∈lnX ex p,∀ j,j < 10→aR (aN j) x=true→j < 2+dp p:=by
  intro p h ex x hx j hj hs
  rw [kQ] at hx
  simp only [List.mem_append,List.mem_cons] at hx
  rcases hx with hx |rfl |hx
  ·rw [J1 hx] at hs;cases hs
  ·cases hs
  ·exact h x hx j hj hs
 intro p
 induction p with
 |leaf k o f=>exact key _ (fun x hx j hj hs=>Nat.lt_of_lt_of_le (J2 o j hj (List.any_eq_true.mpr ⟨x,hx,hs⟩)) (Nat.le_refl _))
 |one s f p ih=>
  refine key _ (xL (k:=(bnd [lnX [] p]).val) (bs:=[lnX [] p]) (n:=2+dp (.one s f p)) ?_ ?_)
  ·show (bnd [lnX [] p]).val < 2+(1+dp p)
   by_cases q:2+dp p < 10
   ·have:=xM (nX (bs:=[lnX [] p]) q (by simpa using ih []) (Nat.le_refl _))
    lia
   ·have:=(bnd [lnX [] p]).isLt;lia
  ·intro ls hls
   simp only [List.mem_cons,List.not_mem_nil,or_false] at hls
   subst hls
   intro x hx j hj hs
   have:=ih [] x hx j hj hs
   show j < 2+(1+dp p)
   lia
 |two s f p q ih1 ih2=>
  have h12:∀ ls∈[lnX [] p,lnX [] q],∀ x∈ls,∀ j,j < 10→aR (aN j) x=true→j < 2+max (dp p) (dp q):=by
   intro ls hls
   simp only [List.mem_cons,List.not_mem_nil,or_false] at hls
   rcases hls with rfl |rfl
   ·intro x hx j hj hs
    have:=ih1 [] x hx j hj hs
    lia
   ·intro x hx j hj hs
    have:=ih2 [] x hx j hj hs
    lia
  refine key _ (xL (k:=(bnd [lnX [] p,lnX [] q]).val) (bs:=[lnX [] p,lnX [] q]) (n:=2+dp (.two s f p q)) ?_ ?_)
  ·show (bnd [lnX [] p,lnX [] q]).val < 2+(1+max (dp p) (dp q))
   by_cases hq:2+max (dp p) (dp q) < 10
   ·have:=xM (nX hq h12 (Nat.le_refl _))
    lia
   ·have:=(bnd [lnX [] p,lnX [] q]).isLt;lia
  ·intro ls hls x hx j hj hs
   have:=h12 ls hls x hx j hj hs
   show j < 2+(1+max (dp p) (dp q))
   lia
 |ltr f p ih=>
  refine key _ fun x hx j hj hs=> ?_
  have:=ih (fI f++[Fi.mv]) x hx j hj hs
  show j < 2+(1+dp p)
  lia
theorem tT {bs:List (List (List Nat))} {n:Nat} (h:∀ ls∈bs,∀ x∈ls,∀ j,j < 10→aR (aN j) x=true→j < n) (hn:n≤3):
  dN bs (bnd bs).val=false∧(∀ i,i < (bnd bs).val→dN bs i=true)∧∀ ls∈bs,∀ x∈ls,aR (aN (bnd bs).val) x=false:=by
 obtain ⟨h1,h2⟩:=GK (bs:=bs) (nX (by decide) h hn)
 refine ⟨h1,h2,fun ls hls x hx=> ?_⟩
 cases q:aR (aN (bnd bs).val) x with
 |false=>rfl
 |true=>
  have:dN bs (bnd bs).val=true:=List.any_eq_true.mpr ⟨ls,hls,List.any_eq_true.mpr ⟨x,hx,q⟩⟩
  rw [h1] at this;cases this
theorem iG:∀ (a b:List (List Nat)),cY (a++b)=cY a+cY b
 | [],b=>by simp [cY]
 |x::a,b=>by
  have:=iG a b
  simp only [List.cons_append,cY,this]
  lia
theorem xN:∀ i,cY (fl i)≤90:=
 fi8 (by decide) (by decide) (by decide) (by decide) (by decide) (by decide) (by decide) (by decide) (fin4 (by decide) (by decide) (by decide) (by decide))
  (fin3 (fin4 (by decide) (by decide) (by decide) (by decide)) (fin4 (by decide) (by decide) (by decide) (by decide)) (fin4 (by decide) (by decide) (by decide) (by decide)))
theorem rW:∀ is,cY (hl is)≤90 * is.length
 | []=>Nat.le_refl _
 |i::is=>by
  have h1:=rW is
  have h2:=xN i
  have e:hl (i::is)=fl i++hl is:=by simp [hl]
  rw [e,iG,List.length_cons]
  lia
theorem GL:∀ o,cY (bl o)≤60:=fin12 (by decide) (by decide) (by decide) (by decide) (by decide) (by decide) (by decide) (by decide) (by decide) (by decide) (by decide) (by decide)
theorem b5:∀ f,(fI f).length≤2:=fin3 (by decide) (by decide) (by decide)
theorem GM:∀ o,(kI o).length≤1:=fin12 (by decide) (by decide) (by decide) (by decide) (by decide) (by decide) (by decide) (by decide) (by decide) (by decide) (by decide) (by decide)
theorem iH (p:P):(aT p).length≤4:=by
 cases p with
 |leaf k o f=>
  have h1:=b5 f
  have h2:=GM o
  have:(aT (.leaf k o f)).length=1+((kI o).length+(fI f).length):=by
   show (Fi.ct k::(kI o++fI f)).length=_
   simp;lia
  lia
 |one s f p=>
  have h1:=b5 f
  show (Fi.cm s _::fI f).length≤4
  simp;lia
 |two s f p q=>
  have h1:=b5 f
  show (Fi.cm s _::fI f).length≤4
  simp;lia
 |ltr f p=>show 1≤4;decide
theorem rX {k:Nat}:∀ bs,cY (jl k bs)=15+(bs.map fun l=>11+cY l).sum
 | []=>rfl
 |l::bs=>by
  have:=rX (k:=k) bs
  simp only [jl,cY,iG,this,List.map_cons,List.sum_cons]
  show 9+2+_=_
  lia
theorem GN:∀ (p:P) (ex:List Fi),cY (lnX ex p)≤90 * ex.length+1000 * 3 ^ dp p:=by
 have key:∀ (p:P) (n:Nat),cY (bdP p)+362≤n→∀ ex,cY (lnX ex p)≤90 * ex.length+n:=by
  intro p n h ex
  have h1:=rW (ex++aT p)
  have h2:=iH p
  have e:cY ([]::bdP p)=2+cY (bdP p):=by simp [cY]
  rw [kQ,iG,e]
  rw [List.length_append] at h1
  lia
 intro p
 induction p with
 |leaf k o f=>
  have:=GL o
  refine key _ _ ?_
  show cY (bl o)+362≤1000 * 3 ^ 0
  lia
 |one s f p ih=>
  refine key _ _ ?_
  have h:=ih []
  have e:cY (bdP (.one s f p))=15+(11+cY (lnX [] p)+0):=rX [lnX [] p]
  have e2:3 ^ dp (.one s f p)=3 * 3 ^ dp p:=by show 3 ^ (1+dp p)=_;rw [Nat.pow_add]
  have:0 < 3 ^ dp p:=Nat.pow_pos (by decide)
  rw [e,e2]
  simp at h
  lia
 |two s f p q ih1 ih2=>
  refine key _ _ ?_
  have h1:=ih1 []
  have h2:=ih2 []
  have e:cY (bdP (.two s f p q))=15+(11+cY (lnX [] p)+(11+cY (lnX [] q)+0)):=rX [lnX [] p,lnX [] q]
  have e2:3 ^ dp (.two s f p q)=3 * 3 ^ max (dp p) (dp q):=by show 3 ^ (1+_)=_;rw [Nat.pow_add]
  have l1:3 ^ dp p≤3 ^ max (dp p) (dp q):=Nat.pow_le_pow_right (by decide) (Nat.le_max_left ..)
  have l2:3 ^ dp q≤3 ^ max (dp p) (dp q):=Nat.pow_le_pow_right (by decide) (Nat.le_max_right ..)
  have:0 < 3 ^ max (dp p) (dp q):=Nat.pow_pos (by decide)
  rw [e,e2]
  simp at h1 h2
  lia
 |ltr f p ih=>
  refine key _ _ ?_
  have h:=ih (fI f++[Fi.mv])
  have hf:=b5 f
  have e:cY (bdP (.ltr f p))=cY (lnX (fI f++[Fi.mv]) p):=rfl
  have e2:3 ^ dp (.ltr f p)=3 * 3 ^ dp p:=by show 3 ^ (1+dp p)=_;rw [Nat.pow_add]
  have:0 < 3 ^ dp p:=Nat.pow_pos (by decide)
  rw [e,e2]
  rw [List.length_append] at h
  simp at h
  lia
theorem i4 {p:P} {ex:List Fi} (hd:dp p≤2) (he:ex.length≤3):(txt (lnX ex p)).length≤10000:=by
 have h:=GN p ex
 have h2:=iD (ls:=lnX ex p) f0
 have h3:3 ^ dp p≤3 ^ 2:=Nat.pow_le_pow_right (by decide) hd
 have:(3:Nat) ^ 2=9:=rfl
 lia
theorem nY:∀ ls:List (List Nat),(crl ls).length=cY ls
 | []=>rfl
 |x::ls=>by
  have:=nY ls
  simp only [crl,List.flatMap_cons,List.length_append,cY,List.length_cons,List.length_nil] at this ⊢
  lia
theorem xO (i:Fi):(nm i).length+1+(txt (rw' i)).length+2≤90:=by
 have h:=xN i
 rw [← nY,xH] at h
 unfold fb at h
 simp only [List.length_append,List.length_cons,List.length_nil] at h
 lia
theorem kT (is:List Fi):(hb is).length≤90 * is.length:=by rw [← rV,nY];exact rW is
theorem xP {i:Fi} {d:Nat} {H:List O} (hd:9≤d):CA d (.c (.obj 335)) [.c (fC i)] H (.c (.bool true)) H:=bA (f:=f335) rfl (BV i) hd
noncomputable def wfS:S:=(f340.body[0]?).getD .bad
theorem tU {H:List O}:∀ (is:List Fi) (F:Fm),9≤F.d→∃ F',F'.d=F.d∧(∀ m,m≠bX→lk F'.vs m=lk F.vs m)∧LP (lpT wfS) (lpB wfS) (is.map fC) F H .nx F' H
 | [],F,hd=>⟨F,rfl,fun _ _=>rfl,w0⟩
 |i::is,F,hd=>by
  obtain ⟨F',e1,e2,e3⟩:=tU (H:=H) is ⟨F.d,put bX (.c (fC i)) F.vs⟩ hd
  refine ⟨F',e1,fun m hm=>(e2 m hm).trans (aE (nbeq hm) rfl),vG aX (aH (aQ (b:=false) (wX (b:=true) (cE (v:=.c (.bool true)) rfl (aF aC (aA (aB lkp_eq) aD) (xP (i:=i) hd)) rfl)) a5) a5) e3⟩
noncomputable def wfE:X:=.bin .Add (.bin .Add (.bin .Add (.atr (.var bX) zK) (.con (.byt [58]))) (.atr (.var bX) zAB)) (.con (.byt [13,10]))
theorem tV {H:List O}:∀ (is:List Fi) (F:Fm),CP wfE (.nm bX) [] (is.map fC) F H (is.map fun i=>C.byt (fb i)) H
 | [],F=>b8
 |i::is,F=>by
  have h:=xO i
  have e:fb i=((nm i++[58])++txt (rw' i))++[13,10]:=by simp [fb]
  rw [List.map_cons,List.map_cons]
  refine dA (x:=.byt (fb i)) aX bE ?_ (tV is ⟨F.d,put bX (.c (fC i)) F.vs⟩)
  rw [e]
  refine aW (aW (aW (aZ (x:=.byt (nm i)) (aB lkp_eq) rfl rfl rfl) aC (hM ?_)) (aZ (x:=.byt (txt (rw' i))) (aB lkp_eq) rfl rfl rfl) (hM ?_)) aC (hM ?_)
  ·show (nm i).length+1≤1000000;lia
  ·rw [List.length_append];show (nm i).length+1+_≤1000000;lia
  ·rw [List.length_append,List.length_append];show (nm i).length+1+_+2≤1000000;lia
theorem fK {is:List Fi} (hn:is.length < 900) {d:Nat} (hd:10≤d) {H:List O}:CA d (.c (.obj 340)) [.c (.lst (is.map fC))] H (.c (.byt (hb is))) H:=by
 obtain ⟨d,rfl⟩:∃ e,d=e+1:=⟨d - 1,by lia⟩
 have hl:=kT is
 obtain ⟨F',e1,e2,e3⟩:=tU (H:=[]) is ⟨d,[(zF,.c (.lst (is.map fC)))]⟩ (by show 9≤d;lia)
 have hm:(is.map fun i=>C.byt (fb i))=(is.map fb).map C.byt:=by rw [List.map_map];rfl
 refine aP (f:=f340) (H1:=[]) rfl rfl rfl (aH (nN (aB rfl) (i1 hn) e3) (aM (aL (eH (bs:=is.map fb) ?_ ?_))))
 ·show (is.flatMap fb).length≤_
  show (hb is).length≤_
  lia
 ·rw [← hm]
  exact cK (x:=.lst (is.map fC)) (aB (e2 _ (by decide))) (i1 hn) (by rw [List.length_map];show _≤1000000;lia) (tV is _)
noncomputable def E0 (K:C):Prop:=∃ t s p,K= .ins 510 [(zAS,t),(z5,s),(zAT,p)]
theorem pK:∀ k:Fin 4,E0 (cM k.val):=fin4 ⟨_,_,_,rfl⟩ ⟨_,_,_,rfl⟩ ⟨_,_,_,rfl⟩ ⟨_,_,_,rfl⟩
theorem eN {K:C} (hK:E0 K) {o:X} {m a:Nat} {F:Fm} {H H1:List O} {v:V} (hm:tb.me 510 m=some a) (h0:Nat.beq zAS m=false) (h2:Nat.beq z5 m=false) (h3:Nat.beq zAT m=false) (h1:EX o F H (.c K) H1) (h:CA F.d (.c (.obj a)) [.c K] H1 v H1):EX (.met o m []) F H v H1:=by
 obtain ⟨t,s,p,rfl⟩:=hK
 refine c9 (c:=510) (a:=a) h1 rfl ?_ hm aD h
 simp only [lk,h0,h2,h3]
noncomputable def E1 (enc:List Nat) (es:List Fi):Prop:=(enc=s7∧es=[])∨(enc=sB∧es=[.cb])∨(enc=sQ∧es=[.cq])
theorem xQ:∀ o:Fin 12,E1 (hO o) (kI o):=
 fin12 (.inl ⟨rfl,rfl⟩) (.inl ⟨rfl,rfl⟩) (.inl ⟨rfl,rfl⟩) (.inr (.inl ⟨rfl,rfl⟩)) (.inr (.inl ⟨rfl,rfl⟩)) (.inr (.inr ⟨rfl,rfl⟩)) (.inl ⟨rfl,rfl⟩) (.inl ⟨rfl,rfl⟩) (.inr (.inl ⟨rfl,rfl⟩)) (.inl ⟨rfl,rfl⟩) (.inl ⟨rfl,rfl⟩) (.inl ⟨rfl,rfl⟩)
theorem J4 {H:List O} {v:V} {a b:List C} (hv:view H v=some (.lst a)) (h:a.length+b.length≤1000000):rK H .Add v (.c (.lst b))=some (.c (.lst (a++b))):=by
 have h':a.length+b.length≤lim:=h
 unfold rK
 rw [hv]
 show (vF .Add (.lst a) (.lst b)).map V.c=_
 exact congrArg (Option.map V.c) (if_pos h')
noncomputable abbrev J5:Nat:=7305070
theorem nZ {i:Fi} {K:C} (hi:nm i=rS) (hw:[32]++wk i=txt (rw' i)) (hK:∀ {d H},9≤d→CA d (.c (.obj 681)) [.c K] H (.c (.byt (wk i))) H) {enc:List Nat} {es:List Fi} (he:E1 enc es) {f:Fin 3} {d:Nat} (hd:13≤d) {H:List O}:
  CA d (.c (.obj 1011)) [.c (.tup ((fI f).map fC)),.c K,.c (.str enc)] H (.c (.byt (hb (i::(es++fI f))++[13,10]))) H:=by
 obtain ⟨d,rfl⟩:∃ e,d=e+1:=⟨d - 1,by lia⟩
 have hf:=b5 f
 have hk:okL ((fI f).map fC)=true:=okL_le (by rw [List.length_map];lia)
 have hel:es.length≤1:=by rcases he with ⟨_,rfl⟩ | ⟨_,rfl⟩ | ⟨_,rfl⟩ <;> simp
 have hwl:=xO i
 let F0:Fm:=⟨d,[(zF,.c (.tup ((fI f).map fC))),(zM,.c K),(zZ,.c (.str enc))]⟩
 let F1:Fm:=⟨d,[(zF,.c (.tup ((fI f).map fC))),(zM,.c K),(zZ,.c (.str enc)),(J5,.r 0)]⟩
 have efC:fC i=GA rS (txt (rw' i)):=by rw [fC,hi]
 have s0:ST f1011.body[0] F0 [] .nx F0 []:=eQ (aF aC (aA (aB rfl) aD) (bA (f:=f1006) rfl (EW f) (by show 12≤d;lia)))
 have s1:ST f1011.body[1] F0 [] .nx F1 [.lst [fC i]]:=by
  refine e6 (F:=F0) (H1:=[]) (cs:=[fC i]) rfl (aA (v:=.c (fC i)) (aF aC (aA aC (aA (aW aC (aF aC (aA (aB rfl) aD) (hK (by show 9≤d;lia))) (hM ?_)) aD)) ?_) aD) rfl
  ·have:=congrArg List.length hw
   rw [List.length_append] at this
   rw [this];lia
  ·rw [hw,efC]
   show CA d _ _ _ _ _
   obtain ⟨d,rfl⟩:∃ e,d=e+1:=⟨d - 1,by lia⟩
   exact dP (ps:=[zK,zAB]) (ds:=[]) rfl rfl rfl rfl
 have s2:ST f1011.body[2] F1 [.lst [fC i]] .nx F1 [.lst ([fC i]++es.map fC)]:=by
  rcases he with ⟨rfl,rfl⟩ | ⟨rfl,rfl⟩ | ⟨rfl,rfl⟩
  ·exact aQ (b:=false) (aK (aB rfl) (aJ aC rfl)) a5
  ·refine aQ (b:=true) (aK (aB rfl) (aJ aC rfl)) (aH (H1:=[.lst ([fC i]++[fC .cb])]) (eQ (mH (F:=F1) (H1:=[.lst [fC i]]) (H2:=[.lst [fC i]]) (n:=0) (l:=[fC i]) (l1:=[fC i]) (x:=fC .cb) (aB rfl) rfl (aF aC (aA aC (aA (aW (v:=.c (.byt [32])) (w:=.c (.byt sB)) aC (aF aC (aA (cK (x:=.str sB) (cs:=sB.map fun c=>C.str [c]) (aB rfl) rfl (by show 6≤1000000;lia) (fY sB _ _)) aD) (bZ (cs:=[.lst (sB.map fun (c:Nat)=>C.int (c:Int))]) rfl rfl)) rfl) aD)) ?_) rfl (by show 1 < 1000000;lia))) a5)
   show CA d _ _ _ _ _
   obtain ⟨d,rfl⟩:∃ e,d=e+1:=⟨d - 1,by lia⟩
   exact dP (ps:=[zK,zAB]) (ds:=[]) rfl rfl rfl rfl
  ·refine aQ (b:=true) (aK (aB rfl) (aJ aC rfl)) (aH (H1:=[.lst ([fC i]++[fC .cq])]) (eQ (mH (F:=F1) (H1:=[.lst [fC i]]) (H2:=[.lst [fC i]]) (n:=0) (l:=[fC i]) (l1:=[fC i]) (x:=fC .cq) (aB rfl) rfl (aF aC (aA aC (aA (aW (v:=.c (.byt [32])) (w:=.c (.byt sQ)) aC (aF aC (aA (cK (x:=.str sQ) (cs:=sQ.map fun c=>C.str [c]) (aB rfl) rfl (by show 16≤1000000;lia) (fY sQ _ _)) aD) (bZ (cs:=[.lst (sQ.map fun (c:Nat)=>C.int (c:Int))]) rfl rfl)) rfl) aD)) ?_) rfl (by show 1 < 1000000;lia))) a5)
   show CA d _ _ _ _ _
   obtain ⟨d,rfl⟩:∃ e,d=e+1:=⟨d - 1,by lia⟩
   exact dP (ps:=[zK,zAB]) (ds:=[]) rfl rfl rfl rfl
 have hln:(i::(es++fI f)).length≤4:=by simp;lia
 have hlb:=kT (i::(es++fI f))
 refine aP (f:=f1011) (F1:=F1) (H1:=[.lst ([fC i]++es.map fC)]) rfl rfl rfl (aH s0 (aH s1 (aH s2 (aM (aL (aW (v:=.c (.byt (hb (i::(es++fI f))))) (aF aC (aA (v:=.c (.lst ((i::(es++fI f)).map fC))) (aW (aB rfl) (aF aC (aA (aB rfl) aD) (bZ (cs:=[.tup ((fI f).map fC)]) (x:=.lst ((fI f).map fC)) rfl ?_)) ?_) aD) (fK (by lia) (by show 10≤d;lia))) aC (hM ?_)))))))
 ·exact if_pos hk
 ·rw [J4 (a:=[fC i]++es.map fC) rfl (by simp;lia)]
  simp
 ·show _+2≤1000000;lia
theorem n4 {p:P} {ex:List Fi} (hd:dp p≤2) (he:ex.length≤3):(hb (ex++aT p)).length+2+(txt (bdP p)).length≤10000:=by
 have h:=i4 (p:=p) hd he
 rw [bY] at h
 simp only [List.length_append,List.length_cons] at h
 lia
theorem GO {F:Fm} {H:List O}:EX (.dct [] []) F H (.c (.dcs [])) H:=xI (Ev.a0 fun _ _ k=>k)
theorem GP {F:Fm} {H H1 H2:List O} {k v:X} {s:List Nat} {x:C} (h1:EX k F H (.c (.str s)) H1) (h2:EX v F H1 (.c x) H2):EX (.dct [k] [v]) F H (.c (.dcs [(s,x)])) H2:=
 xI (h1.m2 h2 fun _ h1 h2 q k=>h1 _ (h2 _ k))
theorem B5 {k:Fin 4} {o:Fin 12} {f:Fin 3} {d:Nat} (hd:14≤d) {H:List O}:CA d (.c (.obj 1018)) [.c (pc (.leaf k o f))] H (.c (.byt (txt (lnX [] (.leaf k o f))))) H:=by
 obtain ⟨d,rfl⟩:∃ e,d=e+1:=⟨d - 1,by lia⟩
 have hl:=n4 (p:=.leaf k o f) (ex:=[]) (by show 0≤2;decide) (by decide)
 have hk:=pK k
 let F1:Fm:=⟨d,[(zBF,.c (pc (.leaf k o f))),(zM,.c (cM k.val))]⟩
 let F2:Fm:=⟨d,[(zBF,.c (pc (.leaf k o f))),(zM,.c (cM k.val)),(zZ,.c (.str (hO o)))]⟩
 have isT1:EX (.met (.var zM) zAH []) F1 [] (.c (.bool (isT k))) []:=eN hk (a:=507) rfl rfl rfl rfl (aB rfl) (bA (f:=f507) rfl (EV k) (by show 9≤d;lia))
 have isT2:EX (.met (.var zM) zAH []) F2 [] (.c (.bool (isT k))) []:=eN hk (a:=507) rfl rfl rfl rfl (aB rfl) (bA (f:=f507) rfl (EV k) (by show 9≤d;lia))
 rw [bY]
 have eB:hb ([]++aT (.leaf k o f))++13::10::txt (bdP (.leaf k o f))=(hb (.ct k::(kI o++fI f))++[13,10])++txt (bl o):=by
  show hb (.ct k::(kI o++fI f))++13::10::txt (bl o)=_
  simp
 rw [eB]
 refine aP (f:=f1018) (F1:=F2) (H1:=[]) rfl rfl rfl (aH (F1:=F1) (H1:=[]) (aG (v:=.c (cM k.val)) (aZ (aB rfl) rfl rfl rfl) aX)
  (aH (F1:=F1) (H1:=[]) (aQ (b:=false) (dI (a:=false) (b7 (cE (v:=.c (.bool false)) rfl (eN hk (a:=493) rfl rfl rfl rfl (aB rfl) (bA (f:=f493) rfl (ET k) (by show 9≤d;lia))) rfl)
    (b7 (cE (v:=.c (.bool false)) rfl (eN hk (a:=500) rfl rfl rfl rfl (aB rfl) (bA (f:=f500) rfl (EU k) (by show 9≤d;lia))) rfl) eG))) a5)
  (aH (F1:=F2) (H1:=[]) (aG (v:=.c (.str (hO o))) (aF aC (aA (v:=.c (.byt (fQ o.val))) (aZ (aB rfl) rfl rfl rfl) (aA isT1 aD)) (bA (f:=f982) rfl (MP o (isT k)) (by show 12≤d;lia))) aX)
  (aM (aL (aW (aF aC (aA (v:=.c (.tup ((fI f).map fC))) (aZ (aB rfl) rfl rfl rfl) (aA (aB rfl) (aA (aB rfl) aD))) (nZ (i:=.ct k) rfl (xB _ trivial) (fun h=>bA (f:=f681) rfl (JO k) h) (xQ o) (by show 13≤d;lia)))
   (aF aC (aA (aB rfl) (aA (v:=.c (.byt (fQ o.val))) (aZ (aB rfl) rfl rfl rfl) (aA isT2 aD))) (bA (f:=f989) rfl (MQ o (isT k)) (by show 12≤d;lia))) (hM ?_)))))))
 have e1:(hb ([]++aT (.leaf k o f))).length=(hb (.ct k::(kI o++fI f))).length:=rfl
 have e2:(txt (bdP (.leaf k o f))).length=(txt (bl o)).length:=rfl
 rw [List.length_append]
 show _+2+_≤1000000
 lia
noncomputable def gF (n:Nat) (p:P):Prop:=∀ {d H},n≤d→CA d (.c (.obj 1042)) [.c (pc p)] H (.c (.byt (txt (lnX [] p)))) H
theorem pL {H:List O} {n:Nat}:∀ (ps:List P) (F:Fm),n≤F.d→(∀ p∈ps,gF n p)→CP (.cal (.con (.obj 1042)) [.var zL]) (.nm zL) [] (ps.map pc) F H (cF (ps.map (lnX []))) H
 | [],F,hd,h=>b8
 |p::ps,F,hd,h=>dA aX bE (aF aC (aA (aB lkp_eq) aD) (h p (by simp) hd)) (pL ps ⟨F.d,put zL (.c (pc p)) F.vs⟩ hd (fun q hq=>h q (List.mem_cons_of_mem _ hq)))
noncomputable def mC (s f:Fin 3) (ps:List P):C:=.ins 929 [(z5,.str (s3 s)),(zU,.lst (ps.map pc)),(zF,.tup ((fI f).map fC))]
theorem J6 {k:Nat} {bs:List (List (List Nat))} (hb':∀ ls∈bs,ls≠[]):(bs.map (blk k)).flatten.length≤(txt (jl k bs)).length:=by
 rw [← hN hb']
 unfold fD
 simp only [List.length_append]
 lia
theorem B6 {s f:Fin 3} {ps:List P} (hne:ps≠[]) (hps:ps.length≤2) {n d m:Nat} (hd:14≤d) (hn:n+1≤d) (hb0:∀ p∈ps,gF n p) (hdp:∀ p∈ps,dp p≤m) (hm:m≤1) (hz:(txt (jl (bnd (ps.map (lnX []))).val (ps.map (lnX [])))).length≤10000) {H:List O}:
  CA d (.c (.obj 1028)) [.c (mC s f ps)] H (.c (.byt (hb (.cm s (bnd (ps.map (lnX [])))::fI f)++[13,10]++txt (jl (bnd (ps.map (lnX []))).val (ps.map (lnX [])))))) H:=by
 obtain ⟨d,rfl⟩:∃ e,d=e+1:=⟨d - 1,by lia⟩
 let bs:=ps.map (lnX [])
 let k:=bnd bs
 have hbs:∀ ls∈bs,∃ p∈ps,ls=lnX [] p:=by
  intro ls h
  obtain ⟨p,hp,e⟩:=List.mem_map.mp h
  exact ⟨p,hp,e.symm⟩
 have hlen:∀ ls∈bs,(txt ls).length≤400000∧∀ x∈ls,10∉x:=by
  intro ls h
  obtain ⟨p,hp,rfl⟩:=hbs ls h
  have:=i4 (p:=p) (ex:=[]) (by have:=hdp p hp;lia) (by decide)
  exact ⟨by lia,fun x hx=>nV (nU p [] x hx)⟩
 have hnn:∀ ls∈bs,ls≠[]:=by
  intro ls h
  obtain ⟨p,hp,rfl⟩:=hbs ls h
  exact f0
 obtain ⟨u1,u2,u3⟩:=tT (bs:=bs) (n:=2+m) (by
  intro ls h x hx j hj hs
  obtain ⟨p,hp,rfl⟩:=hbs ls h
  have:=EZ p [] x hx j hj hs
  have:=hdp p hp
  lia) (by lia)
 have hk10:k.val < 10:=by have:=k.isLt;lia
 have hbl:bs.length≤1000:=by show (ps.map _).length≤1000;rw [List.length_map];lia
 have hpl:okL (ps.map pc)=true:=okL_le (by rw [List.length_map];lia)
 let F0:Fm:=⟨d,[(zBG,.c (mC s f ps))]⟩
 let F1:Fm:=⟨d,[(zBG,.c (mC s f ps)),(cL,.c (.lst (cF bs)))]⟩
 let F2:Fm:=⟨d,[(zBG,.c (mC s f ps)),(cL,.c (.lst (cF bs))),(fP,.c (.str (bstr k.val)))]⟩
 let F3:Fm:=⟨d,[(zBG,.c (mC s f ps)),(cL,.c (.lst (cF bs))),(fP,.c (.str (bstr k.val))),(zM,.c (cH s k))]⟩
 have hfl:=b5 f
 have hlb:=kT (.cm s k::fI f)
 have hlb2:(Fi.cm s k::fI f).length≤3:=by simp;lia
 refine aP (f:=f1028) (F1:=F3) (H1:=[]) rfl rfl rfl (aH (F1:=F0) (H1:=[]) (aQ (b:=false) (aK (v:=.c (nat (ps.map pc).length)) (aF aC (aA (v:=.c (.lst (ps.map pc))) (aZ (aB rfl) rfl rfl rfl) aD) (a9 (cs:=[.lst (ps.map pc)]) rfl ?_)) (aJ aC ?_)) a5)
  (aH (F1:=F1) (H1:=[]) (nO (x:=.lst (ps.map pc)) (cs:=ps.map pc) (xs:=cF bs) (aZ (aB rfl) rfl rfl rfl) ?_ ?_ (pL ps _ (by show n≤d;lia) hb0))
  (aH (F1:=F2) (H1:=[]) (aG (v:=.c (.str (bstr k.val))) (aF aC (aA (aB rfl) aD) ?_) aX)
  (aH (F1:=F3) (H1:=[]) (aG (v:=.c (cH s k)) (aF aC (aA aC (aA (v:=.c (.str (s3 s))) (aZ (aB rfl) rfl rfl rfl) (aA (v:=.c (.dcs [([98,111,117,110,100,97,114,121],.str (bstr k.val))])) (GP aC (aB rfl)) aD))) ?_) aX)
  (aM (aL (aW (aF aC (aA (v:=.c (.tup ((fI f).map fC))) (aZ (aB rfl) rfl rfl rfl) (aA (aB rfl) (aA aC aD))) (nZ (i:=.cm s k) (es:=[]) rfl (xB _ trivial) (fun h=>bA (f:=f681) rfl (JP s k) h) (.inl ⟨rfl,rfl⟩) (by show 13≤d;lia)))
   (aF aC (aA (aB rfl) (aA (aB rfl) aD)) ?_) (hM ?_))))))))
 ·exact if_pos hpl
 ·show some (((ps.map pc).length:Int) == 0)=some false
  refine congrArg some (beq_eq_false_iff_ne.mpr ?_)
  rw [List.length_map]
  have:ps.length≠0:=fun e=>hne (List.length_eq_zero_iff.mp e)
  lia
 ·exact if_pos hpl
 ·rw [List.length_map];show _≤1000000;lia
 ·show CA d _ _ _ _ _
  obtain ⟨d,rfl⟩:∃ e,d=e+3:=⟨d - 3,by lia⟩
  exact jU hlen hbl hk10 u1 u2
 ·show CA d _ _ _ _ _
  obtain ⟨d,rfl⟩:∃ e,d=e+1:=⟨d - 1,by lia⟩
  exact dP (ps:=[zAS,z5,zAT]) (ds:=[]) rfl rfl rfl rfl
 ·show CA d _ _ _ _ _
  obtain ⟨d,rfl⟩:∃ e,d=e+1:=⟨d - 1,by lia⟩
  rw [← hN hnn]
  refine vJ hk10 (fun ls h=>(hlen ls h).1) hbl ?_
  have:=J6 (k:=k.val) hnn
  have hz':(txt (jl k.val bs)).length≤10000:=hz
  lia
 ·have hz':(txt (jl k.val bs)).length≤10000:=hz
  rw [List.length_append]
  show (hb (.cm s k::fI f)).length+2+(txt (jl k.val bs)).length≤1000000
  lia
theorem pM {p:P} {fs:List Fi} (hchk:CL 200 12 1006 [C.tup (fs.map fC)] .none) (hfs:fs.length≤2) (hp:dp p≤2) {n d:Nat} (hb0:gF n p) (hd:13≤d) (hn:n+1≤d) {H:List O}:
  CA d (.c (.obj 1049)) [.c (pc p),.c (.tup (fs.map fC))] H (.c (.byt (txt (lnX (fs++[Fi.mv]) p)))) H:=by
 obtain ⟨d,rfl⟩:∃ e,d=e+1:=⟨d - 1,by lia⟩
 have hk:okL (fs.map fC)=true:=okL_le (by rw [List.length_map];lia)
 have h1:=i4 (p:=p) (ex:=[]) hp (by decide)
 have h2:=kT (fs++[Fi.mv])
 have h3:(fs++[Fi.mv]).length≤3:=by simp;lia
 have eB:txt (lnX (fs++[Fi.mv]) p)=hb (fs++[Fi.mv])++txt (lnX [] p):=by
  rw [bY,bY]
  simp [hb]
 rw [eB]
 refine aP (f:=f1049) (H1:=[]) rfl rfl rfl (aH (eQ (aF aC (aA (aB rfl) aD) (bA (f:=f1006) rfl hchk (by show 12≤d;lia))))
  (aM (aL (aW (aF aC (aA (v:=.c (.lst ((fs++[Fi.mv]).map fC))) (aW (v:=.c (.lst (fs.map fC))) (w:=.c (.lst [fC .mv])) (aF aC (aA (aB rfl) aD) (bZ (cs:=[.tup (fs.map fC)]) rfl ?_)) (eU rfl (aA (v:=.c (fC .mv)) (aF aC (aA aC (aA aC aD)) ?_) aD) rfl) ?_) aD) (fK (by lia) (by show 10≤d;lia))) (aF aC (aA (aB rfl) aD) (hb0 (by show n≤d;lia))) (hM ?_)))))
 ·exact if_pos hk
 ·show CA d _ _ _ _ _
  obtain ⟨d,rfl⟩:∃ e,d=e+1:=⟨d - 1,by lia⟩
  exact dP (ps:=[zK,zAB]) (ds:=[]) rfl rfl rfl rfl
 ·rw [J4 (a:=fs.map fC) rfl (by simp;lia)]
  simp
 ·lia
theorem vK {p:P} {f:Fin 3} (hp:dp p≤2) {n d:Nat} (hb0:gF n p) (hd:14≤d) (hn:n+2≤d) {H:List O}:
  CA d (.c (.obj 1035)) [.c (pc (.ltr f p))] H (.c (.byt (txt (lnX [] (.ltr f p))))) H:=by
 obtain ⟨d,rfl⟩:∃ e,d=e+1:=⟨d - 1,by lia⟩
 have hf:=b5 f
 have h1:=i4 (p:=p) (ex:=fI f++[Fi.mv]) hp (by simp;lia)
 have h2:=kT (.cl::fI ⟨0,by decide⟩)
 have eB:txt (lnX [] (.ltr f p))=(hb (.cl::([]++fI ⟨0,by decide⟩))++[13,10])++txt (lnX (fI f++[Fi.mv]) p):=by
  rw [bY]
  show hb [.cl]++13::10::txt (lnX (fI f++[Fi.mv]) p)=(hb [.cl]++[13,10])++_
  simp
 rw [eB]
 refine aP (f:=f1035) (H1:=[]) rfl rfl rfl (aM (aL (aW (aF aC (aA (v:=.c (.tup ((fI ⟨0,by decide⟩).map fC))) (a7 rfl aD rfl) (aA (v:=.c dC) (aF aC (aA aC (aA aC (aA GO aD))) ?_) (aA aC aD))) (nZ (i:=.cl) (es:=[]) rfl (xB _ trivial) (fun h=>bA (f:=f681) rfl JQ h) (.inl ⟨rfl,rfl⟩) (by show 13≤d;lia)))
  (aF aC (aA (v:=.c (pc p)) (aZ (aB rfl) rfl rfl rfl) (aA (v:=.c (.tup ((fI f).map fC))) (aZ (aB rfl) rfl rfl rfl) aD)) (pM (EW f) hf hp hb0 (by show 13≤d;lia) (by show n+1≤d;lia))) (hM ?_))))
 ·show CA d _ _ _ _ _
  obtain ⟨d,rfl⟩:∃ e,d=e+1:=⟨d - 1,by lia⟩
  exact dP (ps:=[zAS,z5,zAT]) (ds:=[]) rfl rfl rfl rfl
 ·rw [List.length_append]
  have:(hb (.cl::([]++fI ⟨0,by decide⟩))).length≤90 * 1:=h2
  show _+2+_≤1000000
  lia
theorem pN:∀ p,dp p≤2→gF (16+3 * dp p) p:=by
 have mny:∀ (s f:Fin 3) (ps:List P) (n:Nat),ps≠[]→ps.length≤2→15≤n→(∀ p∈ps,gF n p)→(∀ p∈ps,dp p≤1)→(txt (jl (bnd (ps.map (lnX []))).val (ps.map (lnX [])))).length≤10000→
   ∀ {d H},n+2≤d→CA d (.c (.obj 1042)) [.c (mC s f ps)] H (.c (.byt (hb (.cm s (bnd (ps.map (lnX [])))::fI f)++[13,10]++txt (jl (bnd (ps.map (lnX []))).val (ps.map (lnX [])))))) H:=by
  intro s f ps n h1 h2 h15 h3 h4 h5 d H hd
  obtain ⟨d,rfl⟩:∃ e,d=e+1:=⟨d - 1,by lia⟩
  exact aP (f:=f1042) (H1:=[]) rfl rfl rfl (aM (aQ (b:=true) (cE (v:=.c (.bool true)) rfl (aF aC (aA (aB rfl) (aA aC aD)) (a9 (cs:=[mC s f ps,.obj 929]) rfl rfl)) rfl)
   (aM (aL (aF aC (aA (aB rfl) aD) (B6 h1 h2 (n:=n) (m:=1) (by show 14≤d;lia) (by show n+1≤d;lia) h3 h4 (by decide) h5))))))
 intro p
 induction p with
 |leaf k o f=>
  intro hp d H hd
  obtain ⟨d,rfl⟩:∃ e,d=e+1:=⟨d - 1,by lia⟩
  exact aP (f:=f1042) (H1:=[]) rfl rfl rfl (aH (aQ (b:=false) (cE (v:=.c (.bool false)) rfl (aF aC (aA (aB rfl) (aA aC aD)) (a9 (cs:=[pc (.leaf k o f),.obj 929]) rfl rfl)) rfl) a5)
   (aM (aL (b6 (b:=false) (cE (v:=.c (.bool false)) rfl (aF aC (aA (aB rfl) (aA aC aD)) (a9 (cs:=[pc (.leaf k o f),.obj 966]) rfl rfl)) rfl) (aF aC (aA (aB rfl) aD) (B5 (by show 14≤d;have:16+3 * 0≤d+1:=hd;lia)))))))
 |one s f p ih=>
  intro hp d H hd
  have hp':1+dp p≤2:=hp
  have hd':16+3 * (1+dp p)≤d:=hd
  have hz:=n4 (p:=.one s f p) (ex:=[]) hp (by decide)
  have:=mny s f [p] (16+3 * dp p) (by simp) (by simp) (by lia) (by
   intro r hr
   simp only [List.mem_cons,List.not_mem_nil,or_false] at hr
   subst hr
   intro d H hd;exact ih (by lia) hd) (by simp;lia) (by
   have e:(txt (bdP (.one s f p))).length=(txt (jl (bnd ([p].map (lnX []))).val ([p].map (lnX [])))).length:=rfl
   lia) (d:=d) (H:=H) (by lia)
  rw [bY]
  rw [List.append_assoc] at this
  exact this
 |two s f p q ih1 ih2=>
  intro hp d H hd
  have hp':1+max (dp p) (dp q)≤2:=hp
  have hd':16+3 * (1+max (dp p) (dp q))≤d:=hd
  have hz:=n4 (p:=.two s f p q) (ex:=[]) hp (by decide)
  have:=mny s f [p,q] (16+3 * max (dp p) (dp q)) (by simp) (by simp) (by lia) (by
   intro r hr
   simp only [List.mem_cons,List.not_mem_nil,or_false] at hr
   rcases hr with rfl |rfl
   ·intro d H hd;exact ih1 (by lia) (by lia)
   ·intro d H hd;exact ih2 (by lia) (by lia)) (by
   intro r hr
   simp only [List.mem_cons,List.not_mem_nil,or_false] at hr
   rcases hr with rfl |rfl <;> lia) (by
   have e:(txt (bdP (.two s f p q))).length=(txt (jl (bnd ([p,q].map (lnX []))).val ([p,q].map (lnX [])))).length:=rfl
   lia) (d:=d) (H:=H) (by lia)
  rw [bY]
  rw [List.append_assoc] at this
  exact this
 |ltr f p ih=>
  intro hp d H hd
  have hp':1+dp p≤2:=hp
  have hd':16+3 * (1+dp p)≤d:=hd
  obtain ⟨d,rfl⟩:∃ e,d=e+1:=⟨d - 1,by lia⟩
  exact aP (f:=f1042) (H1:=[]) rfl rfl rfl (aH (aQ (b:=false) (cE (v:=.c (.bool false)) rfl (aF aC (aA (aB rfl) (aA aC aD)) (a9 (cs:=[pc (.ltr f p),.obj 929]) rfl rfl)) rfl) a5)
   (aM (aL (b6 (b:=true) (cE (v:=.c (.bool true)) rfl (aF aC (aA (aB rfl) (aA aC aD)) (a9 (cs:=[pc (.ltr f p),.obj 966]) rfl rfl)) rfl) (aF aC (aA (aB rfl) aD) (vK (by lia) (ih (by lia)) (by show 14≤d;lia) (by show 16+3 * dp p+2≤d;lia)))))))
noncomputable abbrev c8:Nat:=z4
noncomputable abbrev gG:Nat:=zL
theorem max1 (a:Nat):iY .max [.lst [.int 0,nat a]]=some (nat a):=by
 show some (C.int (if (0:Int) < (a:Int) then (a:Int) else 0))=_
 by_cases q:(0:Int) < (a:Int)
 ·rw [if_pos q]
 ·rw [if_neg q];have:a=0:=by lia
  rw [this];rfl
theorem max2 (a b:Nat):iY .max [.lst [.int 0,nat a,nat b]]=some (nat (max a b)):=by
 have e:(if (0:Int) < (a:Int) then (a:Int) else 0)=(a:Int):=by
  by_cases q:(0:Int) < (a:Int)
  ·rw [if_pos q]
  ·rw [if_neg q];lia
 show some (C.int (if (if (0:Int) < (a:Int) then (a:Int) else 0) < (b:Int) then (b:Int) else (if (0:Int) < (a:Int) then (a:Int) else 0)))=_
 rw [e]
 by_cases q:(a:Int) < (b:Int)
 ·rw [if_pos q,Nat.max_eq_right (by lia)]
 ·rw [if_neg q,Nat.max_eq_left (by lia)]
theorem f6:∀ (p:P) {o:X} {F:Fm} {H H1:List O},EX o F H (.c (pc p)) H1→1+dp p≤F.d→EX (.met o c8 []) F H (.c (nat (dp p))) H1
 | .leaf k o f,e,F,H,H1,h,hd=>by
  refine c9 (c:=896) (a:=893) h rfl rfl rfl aD ?_
  have hd':1+0≤F.d:=hd
  obtain ⟨d,hd2⟩:∃ d,F.d=d+1:=⟨F.d - 1,by lia⟩
  rw [hd2]
  exact aP (f:=f893) (H1:=[]) rfl rfl rfl (aM (aL aC))
 | .one s f p,e,F,H,H1,h,hd=>by
  refine c9 (c:=929) (a:=926) h rfl rfl rfl aD ?_
  have hd':1+(1+dp p)≤F.d:=hd
  obtain ⟨d,hd2⟩:∃ d,F.d=d+1:=⟨F.d - 1,by lia⟩
  rw [hd2]
  have e1:nat (dp (.one s f p))= .int (1+(dp p:Int)):=by
   show C.int ((1+dp p:Nat):Int)=_
   exact congrArg C.int (by lia)
  rw [e1]
  refine aP (f:=f926) (H1:=[]) rfl rfl rfl (aM (aL (aW (w:=.c (nat (dp p))) aC (aF aC (aA (v:=.c (.lst [.int 0,nat (dp p)])) (aW (eU rfl (aA aC aD) rfl) (cK (x:=.lst [pc p]) (cs:=[pc p]) (xs:=[nat (dp p)]) (aZ (aB rfl) rfl rfl rfl) rfl (by show 1≤1000000;lia) (dA aX bE (f6 p (aB lkp_eq) (by show 1+dp p≤d;lia)) b8)) rfl) aD) (a9 (cs:=[.lst [.int 0,nat (dp p)]]) rfl (max1 _))) rfl)))
 | .two s f p q,e,F,H,H1,h,hd=>by
  refine c9 (c:=929) (a:=926) h rfl rfl rfl aD ?_
  have hd':1+(1+max (dp p) (dp q))≤F.d:=hd
  obtain ⟨d,hd2⟩:∃ d,F.d=d+1:=⟨F.d - 1,by lia⟩
  rw [hd2]
  have e1:nat (dp (.two s f p q))= .int (1+((max (dp p) (dp q):Nat):Int)):=by
   show C.int ((1+max (dp p) (dp q):Nat):Int)=_
   exact congrArg C.int (by lia)
  rw [e1]
  refine aP (f:=f926) (H1:=[]) rfl rfl rfl (aM (aL (aW (w:=.c (nat (max (dp p) (dp q)))) aC (aF aC (aA (v:=.c (.lst [.int 0,nat (dp p),nat (dp q)])) (aW (eU rfl (aA aC aD) rfl) (cK (x:=.lst [pc p,pc q]) (cs:=[pc p,pc q]) (xs:=[nat (dp p),nat (dp q)]) (aZ (aB rfl) rfl rfl rfl) rfl (by show 2≤1000000;lia) (dA aX bE (f6 p (aB lkp_eq) (by show 1+dp p≤d;lia)) (dA aX bE (f6 q (aB lkp_eq) (by show 1+dp q≤d;lia)) b8))) rfl) aD) (a9 (cs:=[.lst [.int 0,nat (dp p),nat (dp q)]]) rfl (max2 _ _))) rfl)))
 | .ltr f p,e,F,H,H1,h,hd=>by
  refine c9 (c:=966) (a:=963) h rfl rfl rfl aD ?_
  have hd':1+(1+dp p)≤F.d:=hd
  obtain ⟨d,hd2⟩:∃ d,F.d=d+1:=⟨F.d - 1,by lia⟩
  rw [hd2]
  have e1:nat (dp (.ltr f p))= .int (1+(dp p:Int)):=by
   show C.int ((1+dp p:Nat):Int)=_
   exact congrArg C.int (by lia)
  rw [e1]
  exact aP (f:=f963) (H1:=[]) rfl rfl rfl (aM (aL (aW (w:=.c (nat (dp p))) aC (f6 p (aZ (aB rfl) rfl rfl rfl) (by show 1+dp p≤d;lia)) rfl)))
theorem B7 {a d:Nat} {f:FDef} {as:List V} {vs:List (Nat × V)} {cs:List C} {F1:Fm} {H H1:List O} (hf:tb.fn a=some f) (ha:eO as=some cs) (hb:eL f.ps (f.ds.map .c) as=some vs) (h:SS f.body ⟨d,vs⟩ [] .nx F1 H1):CA (d+1) (.c (.obj a)) as H (.c .none) H:=
 cI (h.m1 fun _ h _ k=>(nP hf ha).mpr (ooI hb (h _ k)))
theorem pO {p:P} (hp:dp p≤2) {d:Nat} (hd:5≤d) {H:List O}:CA d (.c (.obj 1056)) [.c (pc p),.c (.int 20)] H (.c .none) H:=by
 obtain ⟨d,rfl⟩:∃ e,d=e+1:=⟨d - 1,by lia⟩
 refine B7 (f:=f1056) (H1:=[]) rfl rfl rfl (aH (aQ (b:=false) (aK (f6 p (aB rfl) (by show 1+dp p≤d;lia)) (aJ (aB rfl) ?_)) a5) a5)
 exact congrArg some (decide_eq_false (by lia))
theorem pP {p:P} (hp:dp p≤2) {d:Nat} (hd:23≤d) {H:List O}:CA d (.c (.obj 1063)) [.c (pc p)] H (.c (.byt (txt (lnX [] p)))) H:=by
 obtain ⟨d,rfl⟩:∃ e,d=e+1:=⟨d - 1,by lia⟩
 exact aP (f:=f1063) (H1:=[]) rfl rfl rfl (aH (eQ (aF aC (aA (aB rfl) (aA aC aD)) (pO hp (by show 5≤d;lia)))) (aM (aL (aF aC (aA (aB rfl) aD) (pN p hp (by show 16+3 * dp p≤d;lia))))))
theorem rY {p:P} (hp:dp p≤2) {d:Nat} (hd:25≤d) {H:List O}:CA d (.c (.obj 1070)) [.c (pc p),.c (.tup [fC .fr])] H (.c (.byt (txt (lnX [.fr,.mv] p)))) H:=by
 obtain ⟨d,rfl⟩:∃ e,d=e+1:=⟨d - 1,by lia⟩
 exact aP (f:=f1070) (H1:=[]) rfl rfl rfl (aH (eQ (aF aC (aA (aB rfl) (aA aC aD)) (pO hp (by show 5≤d;lia)))) (aM (aL (aF aC (aA (aB rfl) (aA (aB rfl) aD)) (pM (fs:=[.fr]) GE (by decide) hp (pN p hp) (by show 13≤d;lia) (by show 16+3 * dp p+1≤d;lia))))))
theorem rZ {a:Bool} {e1 e2:X} {es:List X} {F:Fm} {H H1:List O} (h1:EX e1 F H (.c (.bool (!a))) H1):EX (.bop a (e1::e2::es)) F H (.c (.bool (!a))) H1:=
 xI (h1.m1 fun _ h1 q k=>h1 _ (by rcases a with _ |_ <;> exact k))
theorem xR {a:Bool} {e1 e2:X} {F:Fm} {H H1 H2:List O} {v:V} (h1:EX e1 F H (.c (.bool a)) H1) (h2:EX e2 F H1 v H2):EX (.bop a [e1,e2]) F H v H2:=
 xI (h1.m2 h2 fun _ h1 h2 q k=>h1 _ (by rcases a with _ |_ <;> exact h2 q k))
theorem gR {F:Fm} {H H1 H2:List O} {o:X} {a c n:Nat} {fs:List (Nat × C)} {x:C} (h1:EX o F H (.r n) H1) (hn:H1[n]? =some (.ins c fs)) (ok:(jT tb c a && Nat.ble fs.length 30)=true) (e:H1.set n (.ins c (put a x fs))=H2):AS (.at o a) (.c x) F H F H2:=e ▸ MO h1 hn ok
theorem GQ {a d i:Nat} {f:FDef} {fl:List Nat} {as:List V} {vs:List (Nat × V)} {F1:Fm} {H H1:List O} (hf:tb.fn a=none) (hc:tb.cl a=some (.mtb i fl)) (hi:tb.fn i=some f) (hb:eL f.ps (f.ds.map .c) (.r H.length::as)=some vs) (h:SS f.body ⟨d,vs⟩ (H++[.ins a []]) .nx F1 H1):
  CA (d+1) (.c (.obj a)) as H (.r H.length) (H1.take (H.length+1)):=by
 refine cI (h.m1 fun n h q k=> ?_)
 refine (?_:eT tb (run tb n) d a as H q)
 unfold eT
 rw [hf]
 refine ooI hc (ooI hi (ooI hb (h _ ?_)))
 refine (?_:q (.r H.length) (H1.take (H++[O.ins a []]).length))
 rw [List.length_append];exact k
theorem mK {a d:Nat} {f:FDef} {as:List V} {vs:List (Nat × V)} {F1:Fm} {H H1:List O} {v w:V} (hf:tb.fn a=some f) (ha:eO as=none) (hb:eL f.ps (f.ds.map .c) as=some vs) (h:SS f.body ⟨d,vs⟩ H (.rt v) F1 H1) (hv:back H.length H1 v=some w):CA (d+1) (.c (.obj a)) as H w (H1.take H.length):=by
 refine cI (h.m1 fun n h q k=> ?_)
 refine (?_:eT tb (run tb n) d a as H q)
 unfold eT j9
 rw [hf]
 refine (?_:(match eO as with |some _=>iB (run tb n) d f as [] fun v _=>q v H |none=>iB (run tb n) d f as H q))
 rw [ha]
 exact ooI hb (h _ (ooI hv k))
theorem B8 {e:List Nat} (hz:e.length≤1000000) {j c:Nat} (h:e[j]? =some c):iX (.byt e) (nat j)=some (nat c):=nQ (okL_le hz) rfl h
noncomputable abbrev B9:Nat:=zBD
noncomputable def eoW:S:=(f798.body[3]?).getD .bad
noncomputable def eoF (d:Nat) (fs:C) (e:List Nat) (j:Nat):Fm:=⟨d,[(zF,.c fs),(B9,.c (.byt e)),(zA,.c (nat j))]⟩
theorem tW {d:Nat} {fs:C} {e:List Nat} (hz:e.length≤1000000) (he:∀ c∈e,c < 256∧([32,9,40,59]:List Nat).contains c=false):∀ (m j:Nat),j+m=e.length→WH (whT eoW) (whB eoW) (eoF d fs e j) [] .nx (eoF d fs e e.length) []:=by
 have ok:okL e=true:=okL_le hz
 intro m
 induction m with
 |zero=>
  intro j hj
  have:j=e.length:=by lia
  subst this
  refine nM (dI (dY (aK (aB rfl) (aJ (aF aC (aA (aB rfl) aD) (a9 (cs:=[.byt e]) (x:=nat e.length) rfl (if_pos ok))) ?_))))
  exact congrArg some (decide_eq_false (by lia))
 |succ m ih=>
  intro j hj
  obtain ⟨c,hc⟩:∃ c,e[j]? =some c:=⟨e[j]'(by lia),by simp⟩
  have hm:c∈e:=List.mem_of_getElem? hc
  obtain ⟨h1,h2⟩:=he c hm
  refine wY (F2:=eoF d fs e (j+1)) (H1:=[]) (H2:=[]) (dI (b7 (H1:=[]) (aK (aB rfl) (aJ (aF aC (aA (aB rfl) aD) (a9 (cs:=[.byt e]) (x:=nat e.length) rfl (if_pos ok))) ?_)) (b7 (H1:=[]) (aK (bK (x:=nat c) (aB rfl) (aB rfl) rfl (B8 hz hc)) (aJ aC ?_)) eG))) (aH (aG (v:=.c (nat (j+1))) (aW (aB rfl) aC rfl) aX) a5) (ih (j+1) (by lia))
  ·exact congrArg some (decide_eq_true (by lia))
  ·show (if (0:Int)≤(c:Int)∧(c:Int) < 256 then some (([32,9,40,59]:List Nat).contains (c:Int).toNat) else none).map (!·)=some true
   rw [if_pos (by lia),show (c:Int).toNat=c from rfl,h2];rfl
theorem CB {i:Int} (h:0≤i∧i < 55296):iY .chr [.int i]=some (.str [i.toNat]):=if_pos h
theorem kU {v:Nat}:∀ (cs:List Nat) (F:Fm) (H:List O),(∀ c∈cs,c < 256)→CP (.cal (.con (.blt .chr)) [.var v]) (.nm v) [] (cs.map fun (c:Nat)=>C.int (c:Int)) F H (cs.map fun c=>C.str [c]) H
 | [],F,H,h=>b8
 |c::cs,F,H,h=>by
  have hc:=h c (by simp)
  refine dA (F1:={F with vs:=put v (.c (.int c)) F.vs}) aX bE (aF aC (aA (aB lkp_eq) aD) (a9 (cs:=[.int c]) (x:=.str [c]) rfl ?_)) (kU cs _ H fun z hz=>h z (List.mem_cons_of_mem _ hz))
  exact CB ⟨by lia,by lia⟩
theorem r0 {is:List Fi} (hn:is.length < 900) (h:fst' wCE is= .none) {d:Nat} (hd:12≤d) {H:List O}:CA d (.c (.obj 798)) [.c (.lst (is.map fC))] H (.c (.str s7)) H:=by
 obtain ⟨d,rfl⟩:∃ e,d=e+1:=⟨d - 1,by lia⟩
 have fb:=eR xC hn (d:=d) (H:=[]) (by lia)
 rw [h] at fb
 exact aP (f:=f798) (H1:=[]) rfl rfl rfl (aH (aG (aF aC (aA (aB rfl) (aA aC aD)) fb) aX) (aM (aQ (b:=true) (aK (aB rfl) (aJ aC rfl)) (aM (aL aC)))))
theorem r3 {is:List Fi} (hn:is.length < 900) {e:List Nat} (h:fst' wCE is= .byt e) (he:e=sB∨e=sQ) {d:Nat} (hd:12≤d) {H:List O}:CA d (.c (.obj 798)) [.c (.lst (is.map fC))] H (.c (.str e)) H:=by
 obtain ⟨d,rfl⟩:∃ e,d=e+1:=⟨d - 1,by lia⟩
 have fb:=eR xC hn (d:=d) (H:=[]) (by lia)
 rw [h] at fb
 rcases he with rfl |rfl
 ·have w:=tW (d:=d) (fs:=.lst (is.map fC)) (e:=sB) (by decide) (by decide) 6 0 rfl
  exact aP (f:=f798) (H1:=[]) rfl rfl rfl (aH (aG (aF aC (aA (aB rfl) (aA aC aD)) fb) aX) (aH (aQ (b:=false) (aK (aB rfl) (aJ aC rfl)) a5) (aH (F1:=eoF d (.lst (is.map fC)) sB 0) (aG aC aX) (aH (e7 w)
   (aH (aG (v:=.c (.str sB)) (aF aC (aA (v:=.c (.str sB)) (eZ aC (g:=.bm .sjoin) rfl (aA (cK (x:=.byt sB) (cs:=sB.map fun (c:Nat)=>C.int (c:Int)) (dH (x:=.byt sB) (aB rfl) aC (aB rfl) rfl rfl) rfl (by decide) (kU sB _ _ (by decide))) aD) (fun r q k=>k)) aD) (bA (f:=f225) rfl MT (by show 9≤d;lia))) aX)
   (aM (aL (b6 (b:=false) (aK (aB rfl) (aJ aC rfl)) (aB rfl)))))))))
 ·have w:=tW (d:=d) (fs:=.lst (is.map fC)) (e:=sQ) (by decide) (by decide) 16 0 rfl
  exact aP (f:=f798) (H1:=[]) rfl rfl rfl (aH (aG (aF aC (aA (aB rfl) (aA aC aD)) fb) aX) (aH (aQ (b:=false) (aK (aB rfl) (aJ aC rfl)) a5) (aH (F1:=eoF d (.lst (is.map fC)) sQ 0) (aG aC aX) (aH (e7 w)
   (aH (aG (v:=.c (.str sQ)) (aF aC (aA (v:=.c (.str sQ)) (eZ aC (g:=.bm .sjoin) rfl (aA (cK (x:=.byt sQ) (cs:=sQ.map fun (c:Nat)=>C.int (c:Int)) (dH (x:=.byt sQ) (aB rfl) aC (aB rfl) rfl rfl) rfl (by decide) (kU sQ _ _ (by decide))) aD) (fun r q k=>k)) aD) (bA (f:=f225) rfl MU (by show 9≤d;lia))) aX)
   (aM (aL (b6 (b:=false) (aK (aB rfl) (aJ aC rfl)) (aB rfl)))))))))
noncomputable def bC (b o e:Nat) (fs:List Fi) (k:C) (enc:List Nat) (kids:List C) (inner:C):List (Nat × C):=
 [(zN,nat b),(z1,nat o),(zI,nat e),(zF,.lst (fs.map fC)),(zM,k),(zZ,.str enc),(zAZ,.lst kids),(zA0,inner)]
noncomputable def pQ (is:List Fi) (enc:List Nat):Prop:=(fst' wCE is= .none∧enc=s7)∨(fst' wCE is= .byt enc∧(enc=sB∨enc=sQ))
theorem CC {b o e:Nat} {fs:List Fi} (hn:fs.length < 900) {k:C} {enc:List Nat} (he:pQ fs enc) {d:Nat} (hd:13≤d):
  CA d (.c (.obj 789)) [.c (nat b),.c (nat o),.c (nat e),.c (.lst (fs.map fC)),.c k] [] (.r 0) [.ins 789 (bC b o e fs k enc [] .none)]:=by
 obtain ⟨d,rfl⟩:∃ e,d=e+1:=⟨d - 1,by lia⟩
 have eo:∀ {H},CA d (.c (.obj 798)) [.c (.lst (fs.map fC))] H (.c (.str enc)) H:=by
  intro H
  rcases he with ⟨h,rfl⟩ | ⟨h,h2⟩
  ·exact r0 hn h (by lia)
  ·exact r3 hn h h2 (by lia)
 let F:Fm:=⟨d,[(zE,.r 0),(zN,.c (nat b)),(z1,.c (nat o)),(zI,.c (nat e)),(zF,.c (.lst (fs.map fC))),(zM,.c k)]⟩
 refine GQ (H:=[]) (i:=781) (f:=f781) (F1:=F) (H1:=[.ins 789 (bC b o e fs k enc [] .none)]) rfl rfl rfl rfl ?_
 show SS f781.body F [.ins 789 []] .nx F [.ins 789 (bC b o e fs k enc [] .none)]
 refine aH (F1:=F) (H1:=[.ins 789 [(zN,nat b)]]) (aG (F2:=F) (H1:=[.ins 789 []]) (aB rfl) (gR (F:=F) (H1:=[.ins 789 []]) (aB rfl) rfl rfl rfl)) ?_
 refine aH (F1:=F) (H1:=[.ins 789 [(zN,nat b),(z1,nat o)]]) (aG (F2:=F) (H1:=[.ins 789 [(zN,nat b)]]) (aB rfl) (gR (F:=F) (H1:=[.ins 789 [(zN,nat b)]]) (aB rfl) rfl rfl rfl)) ?_
 refine aH (F1:=F) (H1:=[.ins 789 [(zN,nat b),(z1,nat o),(zI,nat e)]]) (aG (F2:=F) (H1:=[.ins 789 [(zN,nat b),(z1,nat o)]]) (aB rfl) (gR (F:=F) (H1:=[.ins 789 [(zN,nat b),(z1,nat o)]]) (aB rfl) rfl rfl rfl)) ?_
 refine aH (F1:=F) (H1:=[.ins 789 [(zN,nat b),(z1,nat o),(zI,nat e),(zF,.lst (fs.map fC))]]) (aG (F2:=F) (H1:=[.ins 789 [(zN,nat b),(z1,nat o),(zI,nat e)]]) (aB rfl) (gR (F:=F) (H1:=[.ins 789 [(zN,nat b),(z1,nat o),(zI,nat e)]]) (aB rfl) rfl rfl rfl)) ?_
 let H5:List O:=[.ins 789 [(zN,nat b),(z1,nat o),(zI,nat e),(zF,.lst (fs.map fC)),(zM,k)]]
 refine aH (F1:=F) (H1:=H5) (aG (F2:=F) (H1:=[.ins 789 [(zN,nat b),(z1,nat o),(zI,nat e),(zF,.lst (fs.map fC))]]) (aB rfl) (gR (F:=F) (H1:=[.ins 789 [(zN,nat b),(z1,nat o),(zI,nat e),(zF,.lst (fs.map fC))]]) (aB rfl) rfl rfl rfl)) ?_
 let H6:List O:=[.ins 789 [(zN,nat b),(z1,nat o),(zI,nat e),(zF,.lst (fs.map fC)),(zM,k),(zZ,.str enc)]]
 refine aH (F1:=F) (H1:=H6) (aG (F2:=F) (H1:=H5) (aF aC (aA (aB rfl) aD) eo) (gR (F:=F) (H1:=H5) (aB rfl) rfl rfl rfl)) ?_
 let H7:List O:=[.ins 789 [(zN,nat b),(z1,nat o),(zI,nat e),(zF,.lst (fs.map fC)),(zM,k),(zZ,.str enc),(zAZ,.lst [])]]
 refine aH (F1:=F) (H1:=H7) (aG (F2:=F) (H1:=H6) (eU rfl aD rfl) (gR (F:=F) (H1:=H6) (aB rfl) rfl rfl rfl)) ?_
 exact aH (F1:=F) (aG (F2:=F) (H1:=H7) aC (gR (F:=F) (H1:=H7) (aB rfl) rfl rfl rfl)) a5
noncomputable abbrev cV:Nat:=zH
noncomputable abbrev CD:Nat:=zBI
theorem jK {v:Nat}:∀ (cs:List Nat) (F:Fm) (H:List O),(∀ c∈cs,c < 256)→CP (.cal (.con (.blt .ord)) [.var v]) (.nm v) [.cmp (.cal (.con (.blt .ord)) [.var v]) [.Lt] [.con (.int 256)]] (cs.map fun c=>C.str [c]) F H (cs.map fun (c:Nat)=>C.int (c:Int)) H
 | [],F,H,h=>b8
 |c::cs,F,H,h=>by
  have hc:=h c (by simp)
  refine dA (F1:={F with vs:=put v (.c (.str [c])) F.vs}) aX (pH (aK (v:=.c (.int c)) (aF aC (aA (aB lkp_eq) aD) (a9 (cs:=[.str [c]]) (x:=.int c) rfl rfl)) (aJ aC ?_)) bE) (aF aC (aA (aB lkp_eq) aD) (a9 (cs:=[.str [c]]) (x:=.int c) rfl rfl)) (jK cs _ H fun z hz=>h z (List.mem_cons_of_mem _ hz))
  exact congrArg some (decide_eq_true (by lia))
theorem n5 {D:List Nat} (hz:D.length≤400000) {s:Fin 3} {k:Fin 4} {bs:List (List (List Nat))} {pre post:List Nat} (hD:D=pre++txt (jl k.val bs)++post) (hs:∀ ls∈bs,ls≠[]∧∀ x∈ls,aR (aN k.val) x=false) (hl:∀ x∈jl k.val bs,10∉x) (hn:bs.length < 900) (hne:bs≠[])
  {b hi:Nat} (hhi:hi=pre.length+(txt (jl k.val bs)).length) {fs:List Fi} {enc:List Nat} {d:Nat} (hd:7≤d):
  CA d (.c (.obj 817)) [.c (.byt D),.r 0] [.ins 789 (bC b pre.length hi fs (cH s k) enc [] .none)] (.c (.lst (d7 k.val pre.length bs))) [.ins 789 (bC b pre.length hi fs (cH s k) enc [] .none)]:=by
 obtain ⟨d,rfl⟩:∃ e,d=e+1:=⟨d - 1,by lia⟩
 have hk10:k.val < 10:=by have:=k.isLt;lia
 let H0:List O:=[.ins 789 (bC b pre.length hi fs (cH s k) enc [] .none)]
 let H1:List O:=[.ins 789 (bC b pre.length hi fs (cH s k) enc [] .none),.lst []]
 let F0:Fm:=⟨d,[(aY,.c (.byt D)),(cV,.r 0)]⟩
 let F1:Fm:=⟨d,[(aY,.c (.byt D)),(cV,.r 0),(CD,.c (.str (bstr k.val)))]⟩
 let F2:Fm:=⟨d,[(aY,.c (.byt D)),(cV,.r 0),(CD,.c (.str (bstr k.val))),(fP,.c (.byt (bstr k.val)))]⟩
 let F3:Fm:=⟨d,[(aY,.c (.byt D)),(cV,.r 0),(CD,.c (.str (bstr k.val))),(fP,.c (.byt (bstr k.val))),(dZ,.r 1)]⟩
 let F4:Fm:=⟨d,[(aY,.c (.byt D)),(cV,.r 0),(CD,.c (.str (bstr k.val))),(fP,.c (.byt (bstr k.val))),(dZ,.c (.lst (d7 k.val pre.length bs)))]⟩
 refine mK (f:=f817) (H:=H0) (H1:=H1) (F1:=F4) (v:=.c (.lst (d7 k.val pre.length bs))) rfl rfl rfl ?_ rfl
 refine aH (F1:=F1) (H1:=H0) (aG (v:=.c (.str (bstr k.val))) (eZ (w:=.c (.dcs [([98,111,117,110,100,97,114,121],.str (bstr k.val))])) (g:=.bm .dget) (aZ (c:=510) (aZ (c:=789) (x:=cH s k) (aB rfl) rfl rfl rfl) rfl rfl rfl) rfl (aA aC (aA aC aD)) (fun r q k=>k)) aX) ?_
 refine aH (F1:=F2) (H1:=H0) (aG (v:=.c (.byt (bstr k.val))) (aF aC (aA (cK (x:=.str (bstr k.val)) (cs:=(bstr k.val).map fun c=>C.str [c]) (aB rfl) rfl (by show 7≤1000000;lia) (jK (bstr k.val) _ _ ?_)) aD) (bZ (cs:=[.lst ((bstr k.val).map fun (c:Nat)=>C.int (c:Int))]) rfl (rQ k.val hk10))) aX) ?_
 ·intro c hc
  unfold bstr at hc
  simp at hc
  lia
 refine aH (F1:=F3) (H1:=H1) (e6 rfl aD rfl) ?_
 refine aH (F1:=F4) (H1:=H1) (aQ (b:=true) (dI (b7 (H1:=H1) (aK (aB rfl) (aJ aC rfl)) (b7 (H1:=H1) (aK (v:=.c (nat 7)) (aF aC (aA (aB rfl) aD) (a9 (cs:=[.byt (bstr k.val)]) rfl rfl)) (aJ (w:=.c (nat 7)) (aF aC (aA (aB rfl) aD) (a9 (cs:=[.str (bstr k.val)]) rfl rfl)) rfl)) eG)))
  (aH (aG (aF aC (aA (aB rfl) (aA (v:=.c (nat pre.length)) (aZ (c:=789) (aB rfl) rfl rfl rfl) (aA (v:=.c (nat hi)) (aZ (c:=789) (aB rfl) rfl rfl rfl) (aA (aB rfl) aD)))) ?_) aX) a5)) ?_
 ·show CA d _ _ _ _ _
  obtain ⟨d,rfl⟩:∃ e,d=e+6:=⟨d - 6,by lia⟩
  exact l8 hz hk10 hD hs hl hn hhi
 ·refine aM (aL (b6 (b:=true) (aK (aB rfl) (aJ (eU rfl aD rfl) ?_)) (aB rfl)))
  rw [rP]
  cases bs with
  |nil=>exact absurd rfl hne
  |cons l bs=>rfl
theorem GR {b o hi:Nat} {fs:List Fi} {k:Fin 4} {enc:List Nat} {d:Nat} (hd:10≤d):
  CA d (.c (.obj 824)) [.r 0] [.ins 789 (bC b o hi fs (cM k.val) enc [] .none)] (.c (.bool false)) [.ins 789 (bC b o hi fs (cM k.val) enc [] .none)]:=by
 obtain ⟨d,rfl⟩:∃ e,d=e+1:=⟨d - 1,by lia⟩
 exact mK (f:=f824) (H:=[.ins 789 (bC b o hi fs (cM k.val) enc [] .none)]) (H1:=[.ins 789 (bC b o hi fs (cM k.val) enc [] .none)]) (F1:=⟨d,[(cV,.r 0)]⟩) (v:=.c (.bool false)) rfl rfl rfl
  (aM (aL (rZ (a:=true) (eN (pK k) (a:=500) rfl rfl rfl rfl (aZ (c:=789) (aB rfl) rfl rfl rfl) (bA (f:=f500) rfl (EU k) (by show 9≤d;lia)))))) rfl
theorem CE {b o hi:Nat} {fs:List Fi} {d:Nat} (hd:10≤d):
  CA d (.c (.obj 824)) [.r 0] [.ins 789 (bC b o hi fs dC s7 [] .none)] (.c (.bool true)) [.ins 789 (bC b o hi fs dC s7 [] .none)]:=by
 obtain ⟨d,rfl⟩:∃ e,d=e+1:=⟨d - 1,by lia⟩
 exact mK (f:=f824) (H:=[.ins 789 (bC b o hi fs dC s7 [] .none)]) (H1:=[.ins 789 (bC b o hi fs dC s7 [] .none)]) (F1:=⟨d,[(cV,.r 0)]⟩) (v:=.c (.bool true)) rfl rfl rfl
  (aM (aL (xR (a:=true) (c9 (c:=510) (a:=500) (w:=.c dC) (aZ (c:=789) (aB rfl) rfl rfl rfl) rfl rfl rfl aD (bA (f:=f500) rfl JX (by show 9≤d;lia))) (mG (v:=.c (.str s7)) (aZ (c:=789) (aB rfl) rfl rfl rfl) (aJ aC rfl))))) rfl
noncomputable def pt:P→Nat→List Fi→C
 | .leaf k oc f,o,ex=>.ins 789 (bC o (o+(hb (ex++aT (.leaf k oc f))).length+2) (o+(txt (lnX ex (.leaf k oc f))).length) (ex++aT (.leaf k oc f)) (cM k.val) (hO oc) [] .none)
 | .one s f p,o,ex=>.ins 789 (bC o (o+(hb (ex++aT (.one s f p))).length+2) (o+(txt (lnX ex (.one s f p))).length) (ex++aT (.one s f p)) (cH s (bnd [lnX [] p])) s7 [pt p (o+(hb (ex++aT (.one s f p))).length+2+11) []] .none)
 | .two s f p q,o,ex=>.ins 789 (bC o (o+(hb (ex++aT (.two s f p q))).length+2) (o+(txt (lnX ex (.two s f p q))).length) (ex++aT (.two s f p q)) (cH s (bnd [lnX [] p,lnX [] q])) s7
   [pt p (o+(hb (ex++aT (.two s f p q))).length+2+11) [],pt q (o+(hb (ex++aT (.two s f p q))).length+2+11+(txt (lnX [] p)).length+2+11) []] .none)
 | .ltr f p,o,ex=>.ins 789 (bC o (o+(hb (ex++aT (.ltr f p))).length+2) (o+(txt (lnX ex (.ltr f p))).length) (ex++aT (.ltr f p)) dC s7 [] (pt p (o+(hb (ex++aT (.ltr f p))).length+2) (fI f++[Fi.mv])))
noncomputable def n6 (ex:List Fi):Prop:=∀ i∈ex,(wd i == wCT)=false∧(wd i == wCE)=false
theorem E2:∀ f,n6 (fI f):=fin3 (by intro i h;cases h) (by
  intro i h
  have h':i∈[Fi.xa]:=h
  simp only [List.mem_cons,List.not_mem_nil,or_false] at h'
  subst h';exact ⟨rfl,rfl⟩) (by
  intro i h
  have h':i∈[Fi.sj,Fi.xb]:=h
  simp only [List.mem_cons,List.not_mem_nil,or_false] at h'
  rcases h' with rfl |rfl <;> exact ⟨rfl,rfl⟩)
theorem J7 {ex:List Fi} (h:n6 ex):n6 (ex++[Fi.mv]):=by
 intro i hi
 rcases List.mem_append.mp hi with hi |hi
 ·exact h i hi
 ·simp only [List.mem_cons,List.not_mem_nil,or_false] at hi
  subst hi;exact ⟨rfl,rfl⟩
theorem fF {w:List Nat}:∀ (ex l:List Fi),(∀ i∈ex,(wd i == w)=false)→fst' w (ex++l)=fst' w l
 | [],l,h=>rfl
 |i::ex,l,h=>by
  have h1:=h i (by simp)
  simp only [List.cons_append,fst']
  rw [h1]
  exact fF ex l fun j hj=>h j (List.mem_cons_of_mem _ hj)
theorem xS {w:List Nat} (ex:List Fi) (h:∀ i∈ex,(wd i == w)=false):fst' w ex= .none:=by
 have:=fF ex [] h
 rwa [List.append_nil] at this
theorem xT (f:Fin 3):fst' wCE (fI f)= .none:=xS _ fun i hi=>(E2 f i hi).2
theorem xU {k:Fin 4} {o:Fin 12} {f:Fin 3} {ex:List Fi} (h:n6 ex):pQ (ex++aT (.leaf k o f)) (hO o):=by
 unfold pQ
 rw [fF ex _ fun i hi=>(h i hi).2]
 have e:fst' wCE (aT (.leaf k o f))=fst' wCE (kI o++fI f):=rfl
 rw [e]
 rcases xQ o with ⟨h1,h2⟩ | ⟨h1,h2⟩ | ⟨h1,h2⟩
 ·rw [h1,h2];exact .inl ⟨xT f,rfl⟩
 ·rw [h1,h2];exact .inr ⟨rfl,.inl rfl⟩
 ·rw [h1,h2];exact .inr ⟨rfl,.inr rfl⟩
theorem pR {ex l:List Fi} (h:n6 ex) (hl:fst' wCE l= .none):pQ (ex++l) s7:=by
 unfold pQ
 rw [fF ex _ fun i hi=>(h i hi).2]
 exact .inl ⟨hl,rfl⟩
noncomputable abbrev GS:Nat:=zBL
noncomputable abbrev E3:Nat:=1945221601580521190260
noncomputable abbrev tX:Nat:=zBN
noncomputable def rpF (d:Nat) (D:List Nat) (b hi dpt:Nat) (dig:Bool) (is:List Fi) (o:Nat) (i:Fi) (K:C):Fm:=
 ⟨d,[(aY,.c (.byt D)),(zN,.c (nat b)),(zI,.c (nat hi)),(c8,.c (nat dpt)),(E3,.c (.bool dig)),(zF,.c (.lst (is.map fC))),(z1,.c (nat o)),(GS,.c (.byt (un i))),(zM,.c K),(cV,.r 0)]⟩
theorem n7 {p:P} {D pre post:List Nat} {ex:List Fi} {dpt:Nat} {dig:Bool} {i:Fi} {K:C} {enc:List Nat} (hz:D.length≤400000) (hD:D=pre++txt (lnX ex p)++post) (hex:ex.length≤3) (h1:fst' wCT (ex++aT p)= .byt (un i)) (hK:∀ {d H},12≤d→CA d (.c (.obj 627)) [.c (.byt (un i))] H (.c K) H) (he:pQ (ex++aT p) enc) {d:Nat} (hd:13≤d) {F5:Fm} {fs':List (Nat × C)}
  (h:SS (f829.body.drop 4) (rpF d D pre.length (pre.length+(txt (lnX ex p)).length) dpt dig (ex++aT p) (pre.length+(hb (ex++aT p)).length+2) i K) [.ins 789 (bC pre.length (pre.length+(hb (ex++aT p)).length+2) (pre.length+(txt (lnX ex p)).length) (ex++aT p) K enc [] .none)] (.rt (.r 0)) F5 [.ins 789 fs']) {H:List O}:
  CA (d+1) (.c (.obj 829)) [.c (.byt D),.c (nat pre.length),.c (nat (pre.length+(txt (lnX ex p)).length)),.c (nat dpt),.c (.bool dig)] H (.c (.ins 789 fs')) H:=by
 have hn:(ex++aT p).length < 900:=by
  have:=iH p
  rw [List.length_append];lia
 have hlen:pre.length+(txt (lnX ex p)).length≤D.length:=by rw [hD];simp only [List.length_append];lia
 have hD':D=pre++hb (ex++aT p)++13::10::(txt (bdP p)++post):=by rw [hD,bY];simp
 have hl2:pre.length+(hb (ex++aT p)).length+2≤pre.length+(txt (lnX ex p)).length:=by rw [bY];simp only [List.length_append,List.length_cons];lia
 let A0:List (Nat × V):=[(aY,.c (.byt D)),(zN,.c (nat pre.length)),(zI,.c (nat (pre.length+(txt (lnX ex p)).length))),(c8,.c (nat dpt)),(E3,.c (.bool dig))]
 let F0:Fm:=⟨d,A0⟩
 let F1:Fm:=⟨d,A0++[(zF,.c (.lst ((ex++aT p).map fC))),(z1,.c (nat (pre.length+(hb (ex++aT p)).length+2)))]⟩
 let F2:Fm:=⟨d,A0++[(zF,.c (.lst ((ex++aT p).map fC))),(z1,.c (nat (pre.length+(hb (ex++aT p)).length+2))),(GS,.c (.byt (un i)))]⟩
 let F3:Fm:=⟨d,A0++[(zF,.c (.lst ((ex++aT p).map fC))),(z1,.c (nat (pre.length+(hb (ex++aT p)).length+2))),(GS,.c (.byt (un i))),(zM,.c K)]⟩
 have fb:=eR EY hn (d:=d) (H:=[]) (by lia)
 rw [h1] at fb
 refine jH (f:=f829) (v:=.r 0) (H1:=[.ins 789 fs']) rfl rfl rfl (aH (F1:=F1) (H1:=[]) (aG (aF aC (aA (aB rfl) (aA (aB rfl) (aA (aB rfl) aD))) (kM hz hD' hl2 hlen hn (by show 13≤d;lia))) tp2)
  (aH (F1:=F2) (H1:=[]) (aG (v:=.c (.byt (un i))) (aF aC (aA (aB rfl) (aA aC aD)) fb) aX)
  (aH (F1:=F3) (H1:=[]) (aG (v:=.c K) (b6 (b:=false) (dI (a:=true) (dY (aK (aB rfl) (aJ aC rfl)))) (aF aC (aA (aB rfl) aD) (hK (by show 12≤d;lia)))) aX)
  (aH (F1:=rpF d D pre.length (pre.length+(txt (lnX ex p)).length) dpt dig (ex++aT p) (pre.length+(hb (ex++aT p)).length+2) i K) (H1:=[.ins 789 (bC pre.length (pre.length+(hb (ex++aT p)).length+2) (pre.length+(txt (lnX ex p)).length) (ex++aT p) K enc [] .none)])
   (aG (v:=.r 0) (aF aC (aA (aB rfl) (aA (aB rfl) (aA (aB rfl) (aA (aB rfl) (aA (aB rfl) aD))))) (CC hn he (by show 13≤d;lia))) aX) h)))) rfl
noncomputable def kW (n:Nat) (p:P):Prop:=∀ {D pre post:List Nat} {ex:List Fi} {dpt:Nat} {dig:Bool} {d:Nat} {H:List O},D.length≤400000→D=pre++txt (lnX ex p)++post→n6 ex→ex.length≤3→dpt+dp p+2 < 20→n≤d→
 CA d (.c (.obj 829)) [.c (.byt D),.c (nat pre.length),.c (nat (pre.length+(txt (lnX ex p)).length)),.c (nat dpt),.c (.bool dig)] H (.c (pt p pre.length ex)) H
noncomputable def rpE:X:=.cal (.con (.obj 829)) [.var aY,.var 7302757,.var 478694368626,.bin .Add (.var c8) (.con (.int 1)),.var tX]
noncomputable def dS (o:Nat):List P→List C
 | []=>[]
 |p::ps=>pt p (o+11) []::dS (o+11+(txt (lnX [] p)).length+2) ps
theorem r4 {k:Nat} {l:List (List Nat)} {bs:List (List (List Nat))} (h:l≠[]):txt (jl k (l::bs))=aN k++13::10::(txt l++13::10::txt (jl k bs)):=by
 have hne:l++jl k bs≠[]:=by simp [h]
 rw [jl,show aN k::(l++jl k bs)=[aN k]++(l++jl k bs) from rfl,gC (by simp) hne,gC h kG];rfl
theorem mL {D:List Nat} (hz:D.length≤400000) {k dpt n:Nat} {w:Bool} {H:List O}:∀ (ps:List P) (pre post:List Nat) (F:Fm),D=pre++txt (jl k (ps.map (lnX [])))++post→n≤F.d→(∀ p∈ps,kW n p∧dpt+1+dp p+2 < 20)→lk F.vs aY=some (.c (.byt D))→lk F.vs c8=some (.c (nat dpt))→lk F.vs tX=some (.c (.bool w))→
  CP rpE (.tp [.nm 7302757,.nm 478694368626]) [] (d7 k pre.length (ps.map (lnX []))) F H (dS pre.length ps) H
 | [],pre,post,F,hD,hd,hp,k1,k2,k3=>b8
 |p::ps,pre,post,F,hD,hd,hp,k1,k2,k3=>by
  obtain ⟨r1,r2⟩:=hp p (by simp)
  have hm:(aN k).length=9:=rfl
  rw [List.map_cons] at hD
  rw [r4 f0] at hD
  have e1:(pre++aN k++[13,10]).length=pre.length+11:=by simp [hm]
  have e2:(pre++aN k++[13,10]++txt (lnX [] p)++[13,10]).length=pre.length+11+(txt (lnX [] p)).length+2:=by simp [hm];lia
  have rd:=r1 (D:=D) (pre:=pre++aN k++[13,10]) (post:=13::10::txt (jl k (ps.map (lnX [])))++post) (ex:=[]) (dpt:=dpt+1) (dig:=w) (d:=F.d) (H:=H) hz (by rw [hD];simp) (fun i hi=>by cases hi) (by decide) r2 hd
  rw [e1] at rd
  have ih:=mL hz (H:=H) (k:=k) (w:=w) (n:=n) (dpt:=dpt) ps (pre++aN k++[13,10]++txt (lnX [] p)++[13,10]) post ⟨F.d,put 478694368626 (.c (nat (pre.length+11+(txt (lnX [] p)).length))) (put 7302757 (.c (nat (pre.length+11))) F.vs)⟩ (by rw [hD];simp) hd (fun q hq=>hp q (List.mem_cons_of_mem _ hq)) (aE rfl (aE rfl k1)) (aE rfl (aE rfl k2)) (aE rfl (aE rfl k3))
  rw [e2] at ih
  refine dA (F1:=⟨F.d,put 478694368626 (.c (nat (pre.length+11+(txt (lnX [] p)).length))) (put 7302757 (.c (nat (pre.length+11))) F.vs)⟩) (x:=pt p (pre.length+11) []) tp2 bE (aF aC (aA (aB (aE rfl (aE rfl k1))) (aA (aB (aE rfl lkp_eq)) (aA (aB lkp_eq) (aA (v:=.c (nat (dpt+1))) (aW (aB (aE rfl (aE rfl k2))) aC rfl) (aA (aB (aE rfl (aE rfl k3))) aD))))) rd) ih
theorem mM {p:P} {s f:Fin 3} {ps:List P} (hown:aT p= .cm s (bnd (ps.map (lnX [])))::fI f) (hbd:bdP p=jl (bnd (ps.map (lnX []))).val (ps.map (lnX []))) (hne:ps≠[]) (hps:ps.length≤2) (hdp:∀ q∈ps,dp q≤1) {n:Nat} (hr:∀ q∈ps,kW n q)
  {D pre post:List Nat} {ex:List Fi} {dpt:Nat} {dig:Bool} {d:Nat} {H:List O} (hz:D.length≤400000) (hD:D=pre++txt (lnX ex p)++post) (hex:n6 ex) (hxl:ex.length≤3) (hdd:dpt+2 < 20) (hdq:∀ q∈ps,dpt+1+dp q+2 < 20) (hd:14≤d) (hn:n+1≤d):
  CA d (.c (.obj 829)) [.c (.byt D),.c (nat pre.length),.c (nat (pre.length+(txt (lnX ex p)).length)),.c (nat dpt),.c (.bool dig)] H
   (.c (.ins 789 (bC pre.length (pre.length+(hb (ex++aT p)).length+2) (pre.length+(txt (lnX ex p)).length) (ex++aT p) (cH s (bnd (ps.map (lnX [])))) s7 (dS (pre.length+(hb (ex++aT p)).length+2) ps) .none))) H:=by
 obtain ⟨d,rfl⟩:∃ e,d=e+1:=⟨d - 1,by lia⟩
 let bs:=ps.map (lnX [])
 let k:=bnd bs
 let is:=ex++aT p
 let o:=pre.length+(hb is).length+2
 let hi:=pre.length+(txt (lnX ex p)).length
 have hbs:∀ ls∈bs,∃ q∈ps,ls=lnX [] q:=by
  intro ls h
  obtain ⟨q,hq,e⟩:=List.mem_map.mp h
  exact ⟨q,hq,e.symm⟩
 obtain ⟨u1,u2,u3⟩:=tT (bs:=bs) (n:=3) (by
  intro ls h x hx j hj hs
  obtain ⟨q,hq,rfl⟩:=hbs ls h
  have:=EZ q [] x hx j hj hs
  have:=hdp q hq
  lia) (by lia)
 have hpre:(pre++hb is++[13,10]).length=o:=by rw [List.length_append,List.length_append];rfl
 have hDk:D=(pre++hb is++[13,10])++txt (jl k.val bs)++post:=by rw [hD,bY,hbd];simp [is,k,bs]
 have hhi:hi=(pre++hb is++[13,10]).length+(txt (jl k.val bs)).length:=by
  show pre.length+(txt (lnX ex p)).length=_
  rw [hpre,bY,hbd]
  simp only [List.length_append,List.length_cons]
  show pre.length+((hb is).length+((txt (jl k.val bs)).length+1+1))=pre.length+(hb is).length+2+(txt (jl k.val bs)).length
  lia
 have hfl:=b5 f
 have h1:fst' wCT is= .byt (un (.cm s k)):=by
  show fst' wCT (ex++aT p)=_
  rw [fF ex _ fun i hi=>(hex i hi).1,hown];rfl
 have he:pQ is s7:=by
  refine pR hex ?_
  rw [hown]
  show fst' wCE (fI f)= .none
  exact xT f
 have ks:=n5 hz (s:=s) (k:=k) (bs:=bs) (pre:=pre++hb is++[13,10]) (post:=post) hDk (fun ls h=>⟨by obtain ⟨q,hq,rfl⟩:=hbs ls h;exact f0,u3 ls h⟩) (by
   intro x hx
   refine nV (j0 (k:=k) (bs:=bs) ?_ x hx)
   intro ls h y hy
   obtain ⟨q,hq,rfl⟩:=hbs ls h
   exact nU q [] y hy) (by show (ps.map _).length < 900;rw [List.length_map];lia) (by
   intro e
   exact hne (List.map_eq_nil_iff.mp e)) (b:=pre.length) (hi:=hi) hhi (fs:=is) (enc:=s7) (d:=d) (by lia)
 rw [hpre] at ks
 have kc:=mL hz (k:=k.val) (dpt:=dpt) (n:=n) (w:=s3 s == [100,105,103,101,115,116]) (H:=[.ins 789 (bC pre.length o hi is (cH s k) s7 [] .none)]) ps (pre++hb is++[13,10]) post
  ⟨d,d6 (dot0::eE (.tp [.nm 7302757,.nm 478694368626])) (put tX (.c (.bool (s3 s == [100,105,103,101,115,116]))) (rpF d D pre.length hi dpt dig is o (.cm s k) (cH s k)).vs)⟩ hDk (by show n≤d;lia) (fun q hq=>⟨hr q hq,hdq q hq⟩) rfl rfl rfl
 rw [hpre] at kc
 have hkl:(d7 k.val o bs).length≤2:=by
  have:∀ (bs:List (List (List Nat))) o,(d7 k.val o bs).length=bs.length:=by
   intro bs
   induction bs with
   |nil=>intro o;rfl
   |cons l bs ih=>intro o;simp [d7,ih]
  rw [this];show (ps.map _).length≤2;rw [List.length_map];exact hps
 have hok:okL (d7 k.val o bs)=true:=okL_le (by lia)
 refine n7 hz hD hxl h1 (fun h=>bA (f:=f627) rfl (JS s k) h) he (by lia) (F5:=⟨d,put tX (.c (.bool (s3 s == [100,105,103,101,115,116]))) (rpF d D pre.length hi dpt dig is o (.cm s k) (cH s k)).vs⟩) ?_
 refine aH (H1:=[.ins 789 (bC pre.length o hi is (cH s k) s7 (dS o ps) .none)]) (aQ (b:=true) (H1:=[.ins 789 (bC pre.length o hi is (cH s k) s7 [] .none)]) (dI (b7 (H1:=[.ins 789 (bC pre.length o hi is (cH s k) s7 [] .none)]) (aK (aB rfl) (aJ aC ?_)) (b7 (cE (v:=.c (.bool true)) rfl (c9 (w:=.c (cH s k)) (c:=510) (a:=493) (aB rfl) rfl rfl rfl aD (bA (f:=f493) rfl (JV s k) (by show 9≤d;lia))) rfl) eG)))
  (aH (aG (v:=.c (.bool (s3 s == [100,105,103,101,115,116]))) (mG (v:=.c (.str (s3 s))) (aZ (c:=510) (v:=.c (cH s k)) (aB rfl) rfl rfl rfl) (aJ aC rfl)) aX)
  (aH (aG (v:=.c (.lst (dS o ps))) (cK (x:=.lst (d7 k.val o bs)) (aF aC (aA (aB rfl) (aA (aB rfl) aD)) ks) ?_ ?_ kc) (gR (aB rfl) rfl rfl rfl)) a5))) (aM (aL (aB rfl)))
 ·exact congrArg some (decide_eq_true (by lia))
 ·exact if_pos hok
 ·show (d7 k.val o bs).length≤1000000;lia
theorem CF:∀ p,dp p≤2→kW (14+dp p) p:=by
 intro p
 induction p with
 |leaf k oc f=>
  intro hp D pre post ex dpt dig d H hz hD hex hxl hdd hd
  have hd':14+0≤d:=hd
  have hdd':dpt+0+2 < 20:=hdd
  obtain ⟨d,rfl⟩:∃ e,d=e+1:=⟨d - 1,by lia⟩
  let p:P:=.leaf k oc f
  let o:=pre.length+(hb (ex++aT p)).length+2
  let hi:=pre.length+(txt (lnX ex p)).length
  have h1:fst' wCT (ex++aT p)= .byt (un (.ct k)):=by
   rw [fF ex _ fun i hi=>(hex i hi).1];rfl
  refine n7 (p:=p) hz hD hxl h1 (fun h=>bA (f:=f627) rfl (JR k) h) (xU hex) (by lia) (F5:=rpF d D pre.length hi dpt dig (ex++aT p) o (.ct k) (cM k.val)) ?_
  refine aH (H1:=[.ins 789 (bC pre.length o hi (ex++aT p) (cM k.val) (hO oc) [] .none)]) (aQ (b:=false) (H1:=[.ins 789 (bC pre.length o hi (ex++aT p) (cM k.val) (hO oc) [] .none)])
   (dI (a:=true) (b7 (H1:=[.ins 789 (bC pre.length o hi (ex++aT p) (cM k.val) (hO oc) [] .none)]) (aK (aB rfl) (aJ aC ?_)) (dY (cE (v:=.c (.bool false)) rfl (eN (pK k) (a:=493) rfl rfl rfl rfl (aB rfl) (bA (f:=f493) rfl (ET k) (by show 9≤d;lia))) rfl))))
   (aH (aQ (b:=false) (H1:=[.ins 789 (bC pre.length o hi (ex++aT p) (cM k.val) (hO oc) [] .none)]) (dI (a:=true) (b7 (H1:=[.ins 789 (bC pre.length o hi (ex++aT p) (cM k.val) (hO oc) [] .none)]) (aK (aB rfl) (aJ aC ?_)) (dY (cE (v:=.c (.bool false)) rfl (aF aC (aA (aB rfl) aD) (GR (by show 10≤d;lia))) rfl)))) a5) a5)) (aM (aL (aB rfl)))
  ·exact congrArg some (decide_eq_true (by lia))
  ·exact congrArg some (decide_eq_true (by lia))
 |one s f p ih=>
  intro hp D pre post ex dpt dig d H hz hD hex hxl hdd hd
  have hp':1+dp p≤2:=hp
  have hd':14+(1+dp p)≤d:=hd
  have hdd':dpt+(1+dp p)+2 < 20:=hdd
  have r:∀ q∈[p],kW (14+dp p) q:=by
   intro q hq
   simp only [List.mem_cons,List.not_mem_nil,or_false] at hq
   subst hq
   intro D pre post ex dpt dig d H
   exact ih (by lia)
  exact mM (p:=.one s f p) (s:=s) (f:=f) (ps:=[p]) rfl rfl (by simp) (by simp) (by simp;lia) (n:=14+dp p) r hz hD hex hxl (by lia) (by simp;lia) (by lia) (by lia)
 |two s f p q ih1 ih2=>
  intro hp D pre post ex dpt dig d H hz hD hex hxl hdd hd
  have hp':1+max (dp p) (dp q)≤2:=hp
  have hd':14+(1+max (dp p) (dp q))≤d:=hd
  have hdd':dpt+(1+max (dp p) (dp q))+2 < 20:=hdd
  have r:∀ q'∈[p,q],kW (14+max (dp p) (dp q)) q':=by
   intro r hr
   simp only [List.mem_cons,List.not_mem_nil,or_false] at hr
   rcases hr with rfl |rfl
   ·intro D pre post ex dpt dig d H h1 h2 h3 h4 h5 h6
    exact ih1 (by lia) h1 h2 h3 h4 h5 (by lia)
   ·intro D pre post ex dpt dig d H h1 h2 h3 h4 h5 h6
    exact ih2 (by lia) h1 h2 h3 h4 h5 (by lia)
  exact mM (p:=.two s f p q) (s:=s) (f:=f) (ps:=[p,q]) rfl rfl (by simp) (by simp) (by simp;lia) (n:=14+max (dp p) (dp q)) r hz hD hex hxl (by lia) (by simp;lia) (by lia) (by lia)
 |ltr f p ih=>
  intro hp D pre post ex dpt dig d H hz hD hex hxl hdd hd
  have hp':1+dp p≤2:=hp
  have hd':14+(1+dp p)≤d:=hd
  have hdd':dpt+(1+dp p)+2 < 20:=hdd
  obtain ⟨d,rfl⟩:∃ e,d=e+1:=⟨d - 1,by lia⟩
  let P0:P:=.ltr f p
  let o:=pre.length+(hb (ex++aT P0)).length+2
  let hi:=pre.length+(txt (lnX ex P0)).length
  have hfl:=b5 f
  have h1:fst' wCT (ex++aT P0)= .byt (un .cl):=by
   rw [fF ex _ fun i hi=>(hex i hi).1];rfl
  have he:pQ (ex++aT P0) s7:=pR hex rfl
  have hbd:bdP P0=lnX (fI f++[Fi.mv]) p:=rfl
  have hpre:(pre++hb (ex++aT P0)++[13,10]).length=o:=by rw [List.length_append,List.length_append];rfl
  have hhi:o+(txt (lnX (fI f++[Fi.mv]) p)).length=hi:=by
   show pre.length+(hb (ex++aT P0)).length+2+(txt (bdP P0)).length=pre.length+(txt (lnX ex P0)).length
   rw [bY]
   simp only [List.length_append,List.length_cons]
   lia
  have rd:=ih (by lia) (D:=D) (pre:=pre++hb (ex++aT P0)++[13,10]) (post:=post) (ex:=fI f++[Fi.mv]) (dpt:=dpt+1) (dig:=false) (d:=d) (H:=[.ins 789 (bC pre.length o hi (ex++aT P0) dC s7 [] .none)]) hz (by rw [hD,bY,hbd];simp;rfl) (J7 (E2 f)) (by simp;lia) (by lia) (by lia)
  rw [hpre,hhi] at rd
  refine n7 (p:=P0) hz hD hxl h1 (fun h=>bA (f:=f627) rfl JT h) he (by lia) (F5:=rpF d D pre.length hi dpt dig (ex++aT P0) o .cl dC) ?_
  refine aH (H1:=[.ins 789 (bC pre.length o hi (ex++aT P0) dC s7 [] (pt p o (fI f++[Fi.mv])))]) (aQ (b:=false) (H1:=[.ins 789 (bC pre.length o hi (ex++aT P0) dC s7 [] .none)])
   (dI (a:=true) (b7 (H1:=[.ins 789 (bC pre.length o hi (ex++aT P0) dC s7 [] .none)]) (aK (aB rfl) (aJ aC ?_)) (dY (cE (v:=.c (.bool false)) rfl (c9 (w:=.c dC) (c:=510) (a:=493) (aB rfl) rfl rfl rfl aD (bA (f:=f493) rfl JW (by show 9≤d;lia))) rfl))))
   (aH (aQ (b:=true) (H1:=[.ins 789 (bC pre.length o hi (ex++aT P0) dC s7 [] .none)]) (dI (a:=true) (b7 (H1:=[.ins 789 (bC pre.length o hi (ex++aT P0) dC s7 [] .none)]) (aK (aB rfl) (aJ aC ?_)) (b7 (cE (v:=.c (.bool true)) rfl (aF aC (aA (aB rfl) aD) (CE (by show 10≤d;lia))) rfl) eG)))
    (aH (aG (v:=.c (pt p o (fI f++[Fi.mv]))) (aF aC (aA (aB rfl) (aA (aB rfl) (aA (aB rfl) (aA (v:=.c (nat (dpt+1))) (aW (aB rfl) aC rfl) (aA aC aD))))) rd) (gR (aB rfl) rfl rfl rfl)) a5)) a5)) (aM (aL (aB rfl)))
  ·exact congrArg some (decide_eq_true (by lia))
  ·exact congrArg some (decide_eq_true (by lia))
theorem n8 {p:P} (hp:dp p≤2) {ex:List Fi} (hex:n6 ex) (hxl:ex.length≤3) {d:Nat} (hd:18≤d) {H:List O}:CA d (.c (.obj 836)) [.c (.byt (txt (lnX ex p)))] H (.c (pt p 0 ex)) H:=by
 obtain ⟨d,rfl⟩:∃ e,d=e+1:=⟨d - 1,by lia⟩
 have hz:=i4 hp hxl
 have ok:okL (txt (lnX ex p))=true:=okL_le (by lia)
 have rd:=CF p hp (D:=txt (lnX ex p)) (pre:=[]) (post:=[]) (ex:=ex) (dpt:=0) (dig:=false) (d:=d) (H:=[]) (by lia) (by simp) hex hxl (by lia) (by lia)
 rw [show ([]:List Nat).length=0 from rfl,Nat.zero_add] at rd
 refine aP (f:=f836) (H1:=[]) rfl rfl rfl (aM (aL (aF aC (aA (aB rfl) (aA aC (aA (v:=.c (nat (txt (lnX ex p)).length)) (aF aC (aA (aB rfl) aD) (a9 (cs:=[.byt (txt (lnX ex p))]) rfl ?_)) (aA aC (aA aC aD))))) rd)))
 exact if_pos ok
noncomputable def mO:List Nat:=[108,101,97,102]
noncomputable def eI:List Nat:=[109,97,110,121]
noncomputable def jL:List Nat:=[108,101,116,116,101,114]
noncomputable def pF:P→List Fi
 | .leaf _ _ f=>fI f
 | .one _ f _=>fI f
 | .two _ f _ _=>fI f
 | .ltr _ _=>[]
noncomputable def trX:P→List C→C
 | .leaf k o f,l=>.tup [.str mO,kdT k,.byt (fQ o.val),.tup l]
 | .one s f p,l=>.tup [.str eI,.str (s3 s),.tup [trX p ((pF p).map tdF)],.tup l]
 | .two s f p q,l=>.tup [.str eI,.str (s3 s),.tup [trX p ((pF p).map tdF),trX q ((pF q).map tdF)],.tup l]
 | .ltr f p,_=>.tup [.str jL,trX p [],.tup ((fI f++pF p).map tdF)]
noncomputable def due (p:P):C:=trX p ((pF p).map tdF)
theorem tY {p:P} {l:List C} {d:Nat} (hd:1≤d) {H:List O}:CA d (.c (.obj 863)) [.c (trX p l)] H (.c (trX p [])) H:=by
 obtain ⟨d,rfl⟩:∃ e,d=e+1:=⟨d - 1,by lia⟩
 cases p with
 |leaf k o f=>exact aP (f:=f863) (H1:=[]) rfl rfl rfl (aM (aL (b6 (b:=false) (aK (v:=.c (.str mO)) (bK (aB rfl) aC rfl rfl) (aJ aC rfl)) (aW (v:=.c (.tup [.str mO,kdT k,.byt (fQ o.val)])) (w:=.c (.tup [.tup []])) (dH (aB rfl) aC (gO aC) rfl rfl) (a7 rfl (aA (v:=.c (.tup [])) (a7 rfl aD rfl) aD) rfl) rfl))))
 |one s f p=>exact aP (f:=f863) (H1:=[]) rfl rfl rfl (aM (aL (b6 (b:=false) (aK (v:=.c (.str eI)) (bK (aB rfl) aC rfl rfl) (aJ aC rfl)) (aW (v:=.c (.tup [.str eI,.str (s3 s),.tup [trX p ((pF p).map tdF)]])) (w:=.c (.tup [.tup []])) (dH (aB rfl) aC (gO aC) rfl rfl) (a7 rfl (aA (v:=.c (.tup [])) (a7 rfl aD rfl) aD) rfl) rfl))))
 |two s f p q=>exact aP (f:=f863) (H1:=[]) rfl rfl rfl (aM (aL (b6 (b:=false) (aK (v:=.c (.str eI)) (bK (aB rfl) aC rfl rfl) (aJ aC rfl)) (aW (v:=.c (.tup [.str eI,.str (s3 s),.tup [trX p ((pF p).map tdF),trX q ((pF q).map tdF)]])) (w:=.c (.tup [.tup []])) (dH (aB rfl) aC (gO aC) rfl rfl) (a7 rfl (aA (v:=.c (.tup [])) (a7 rfl aD rfl) aD) rfl) rfl))))
 |ltr f p=>exact aP (f:=f863) (H1:=[]) rfl rfl rfl (aM (aL (b6 (b:=true) (aK (v:=.c (.str jL)) (bK (aB rfl) aC rfl rfl) (aJ aC rfl)) (aB rfl))))
theorem pS {p:P} {l:List C} {d:Nat} (hd:1≤d) {H:List O}:CA d (.c (.obj 1122)) [.c (trX p l)] H (.c (trX p [])) H:=by
 obtain ⟨d,rfl⟩:∃ e,d=e+1:=⟨d - 1,by lia⟩
 cases p with
 |leaf k o f=>exact aP (f:=f1122) (H1:=[]) rfl rfl rfl (aM (aL (b6 (b:=false) (aK (v:=.c (.str mO)) (bK (aB rfl) aC rfl rfl) (aJ aC rfl)) (aW (v:=.c (.tup [.str mO,kdT k,.byt (fQ o.val)])) (w:=.c (.tup [.tup []])) (dH (aB rfl) aC (gO aC) rfl rfl) (a7 rfl (aA (v:=.c (.tup [])) (a7 rfl aD rfl) aD) rfl) rfl))))
 |one s f p=>exact aP (f:=f1122) (H1:=[]) rfl rfl rfl (aM (aL (b6 (b:=false) (aK (v:=.c (.str eI)) (bK (aB rfl) aC rfl rfl) (aJ aC rfl)) (aW (v:=.c (.tup [.str eI,.str (s3 s),.tup [trX p ((pF p).map tdF)]])) (w:=.c (.tup [.tup []])) (dH (aB rfl) aC (gO aC) rfl rfl) (a7 rfl (aA (v:=.c (.tup [])) (a7 rfl aD rfl) aD) rfl) rfl))))
 |two s f p q=>exact aP (f:=f1122) (H1:=[]) rfl rfl rfl (aM (aL (b6 (b:=false) (aK (v:=.c (.str eI)) (bK (aB rfl) aC rfl rfl) (aJ aC rfl)) (aW (v:=.c (.tup [.str eI,.str (s3 s),.tup [trX p ((pF p).map tdF),trX q ((pF q).map tdF)]])) (w:=.c (.tup [.tup []])) (dH (aB rfl) aC (gO aC) rfl rfl) (a7 rfl (aA (v:=.c (.tup [])) (a7 rfl aD rfl) aD) rfl) rfl))))
 |ltr f p=>exact aP (f:=f1122) (H1:=[]) rfl rfl rfl (aM (aL (b6 (b:=true) (aK (v:=.c (.str jL)) (bK (aB rfl) aC rfl rfl) (aJ aC rfl)) (aB rfl))))
noncomputable abbrev GT:Nat:=zAN
theorem vL {k:Fin 4} {o:Fin 12} {f:Fin 3} {d:Nat} (hd:12≤d) {H:List O}:CA d (.c (.obj 886)) [.c (pc (.leaf k o f))] H (.c (due (.leaf k o f))) H:=by
 obtain ⟨d,rfl⟩:∃ e,d=e+1:=⟨d - 1,by lia⟩
 have hf:=b5 f
 exact aP (f:=f886) (H1:=[]) rfl rfl rfl (aM (aL (a7 rfl (aA aC (aA (v:=.c (kdT k)) (eN (pK k) (a:=486) rfl rfl rfl rfl (aZ (c:=896) (aB rfl) rfl rfl rfl) (bA (f:=f486) rfl (JU k) (by show 9≤d;lia)))
  (aA (v:=.c (.byt (fQ o.val))) (aF aC (aA (aZ (c:=896) (x:=.byt (fQ o.val)) (aB rfl) rfl rfl rfl) aD) (bZ (cs:=[.byt (fQ o.val)]) rfl rfl))
  (aA (v:=.c (.tup ((fI f).map tdF))) (aF aC (aA (aZ (c:=896) (x:=.tup ((fI f).map fC)) (aB rfl) rfl rfl rfl) aD) (iF (is:=fI f) (gE (by lia)) (by lia) (by show 11≤d;lia))) aD)))) rfl)))
theorem iI:∀ (p:P) {o:X} {F:Fm} {H H1:List O},EX o F H (.c (pc p)) H1→12+dp p≤F.d→EX (.met o GT []) F H (.c (due p)) H1
 | .leaf k oc f,o,F,H,H1,h,hd=>by
  have hd':12+0≤F.d:=hd
  exact c9 (c:=896) (a:=886) h rfl rfl rfl aD (vL (by lia))
 | .one s f p,o,F,H,H1,h,hd=>by
  refine c9 (c:=929) (a:=921) h rfl rfl rfl aD ?_
  have hd':12+(1+dp p)≤F.d:=hd
  have hf:=b5 f
  obtain ⟨d,hd2⟩:∃ d,F.d=d+1:=⟨F.d - 1,by lia⟩
  rw [hd2]
  exact aP (f:=f921) (H1:=[]) rfl rfl rfl (aM (aL (a7 rfl (aA aC (aA (v:=.c (.str (s3 s))) (aZ (c:=929) (aB rfl) rfl rfl rfl)
   (aA (v:=.c (.tup [due p])) (aF aC (aA (cK (x:=.lst [pc p]) (cs:=[pc p]) (xs:=[due p]) (aZ (c:=929) (aB rfl) rfl rfl rfl) rfl (by show 1≤1000000;lia) (dA aX bE (iI p (aB lkp_eq) (by show 12+dp p≤d;lia)) b8)) aD) (bZ (cs:=[.lst [due p]]) rfl rfl))
   (aA (v:=.c (.tup ((fI f).map tdF))) (aF aC (aA (aZ (c:=929) (x:=.tup ((fI f).map fC)) (aB rfl) rfl rfl rfl) aD) (iF (is:=fI f) (gE (by lia)) (by lia) (by show 11≤d;lia))) aD)))) rfl)))
 | .two s f p q,o,F,H,H1,h,hd=>by
  refine c9 (c:=929) (a:=921) h rfl rfl rfl aD ?_
  have hd':12+(1+max (dp p) (dp q))≤F.d:=hd
  have hf:=b5 f
  obtain ⟨d,hd2⟩:∃ d,F.d=d+1:=⟨F.d - 1,by lia⟩
  rw [hd2]
  exact aP (f:=f921) (H1:=[]) rfl rfl rfl (aM (aL (a7 rfl (aA aC (aA (v:=.c (.str (s3 s))) (aZ (c:=929) (aB rfl) rfl rfl rfl)
   (aA (v:=.c (.tup [due p,due q])) (aF aC (aA (cK (x:=.lst [pc p,pc q]) (cs:=[pc p,pc q]) (xs:=[due p,due q]) (aZ (c:=929) (aB rfl) rfl rfl rfl) rfl (by show 2≤1000000;lia) (dA aX bE (iI p (aB lkp_eq) (by show 12+dp p≤d;lia)) (dA aX bE (iI q (aB lkp_eq) (by show 12+dp q≤d;lia)) b8))) aD) (bZ (cs:=[.lst [due p,due q]]) rfl rfl))
   (aA (v:=.c (.tup ((fI f).map tdF))) (aF aC (aA (aZ (c:=929) (x:=.tup ((fI f).map fC)) (aB rfl) rfl rfl rfl) aD) (iF (is:=fI f) (gE (by lia)) (by lia) (by show 11≤d;lia))) aD)))) rfl)))
 | .ltr f p,o,F,H,H1,h,hd=>by
  refine c9 (c:=966) (a:=956) h rfl rfl rfl aD ?_
  have hd':12+(1+dp p)≤F.d:=hd
  have hf:=b5 f
  have hpf:(pF p).length≤2:=by
   cases p with
   |leaf k o f=>exact b5 f
   |one s f p=>exact b5 f
   |two s f p q=>exact b5 f
   |ltr f p=>exact Nat.zero_le _
  obtain ⟨d,hd2⟩:∃ d,F.d=d+1:=⟨F.d - 1,by lia⟩
  rw [hd2]
  have hk:okL ((fI f).map fC)=true:=okL_le (by rw [List.length_map];lia)
  have hk2:okL ((pF p).map fC)=true:=okL_le (by rw [List.length_map];lia)
  let F0:Fm:=⟨d,[(zE,.c (pc (.ltr f p)))]⟩
  let F1:Fm:=⟨d,[(zE,.c (pc (.ltr f p))),(zBE,.c (.tup ((pF p).map fC)))]⟩
  have ep:EX (.atr (.var zE) gG) F0 [] (.c (pc p)) []:=aZ (c:=966) (aB rfl) rfl rfl rfl
  have rest:∀ {a:Nat} {fs:List (Nat × C)},pc p= .ins a fs→isC a 966=true→Nat.beq a 966=false→pB tb a zF=true→lk fs zF=some (.tup ((pF p).map fC))→ST f956.body[0] F0 [] .nx F1 []:=by
   intro a fs e h1 h2 h3 h4
   refine aG (v:=.c (.tup ((pF p).map fC))) (b6 (b:=false) (cE (v:=.c (.bool false)) rfl (aF aC (aA ep (aA aC aD)) (a9 (cs:=[pc p,.obj 966]) rfl ?_)) rfl) (aF aC (aA (aZ (c:=a) (fs:=fs) ep ?_ h3 h4) aD) (bZ (cs:=[.tup ((pF p).map fC)]) rfl ?_))) aX
   ·rw [e]
    show (if isC a 966=true then some (C.bool (Nat.beq a 966)) else none)=_
    rw [if_pos h1]
    exact congrArg (fun b=>some (C.bool b)) h2
   ·rw [e];rfl
   ·exact if_pos hk2
  have s0:ST f956.body[0] F0 [] .nx F1 []:=by
   cases p with
   |leaf k o f=>exact rest rfl rfl rfl rfl rfl
   |one s f p=>exact rest rfl rfl rfl rfl rfl
   |two s f p q=>exact rest rfl rfl rfl rfl rfl
   |ltr f' p=>exact aG (v:=.c (.tup [])) (b6 (b:=true) (cE (v:=.c (.bool true)) rfl (aF aC (aA ep (aA aC aD)) (a9 (cs:=[pc (.ltr f' p),.obj 966]) rfl rfl)) rfl) (a7 rfl aD rfl)) aX
  refine aP (f:=f956) (H1:=[]) rfl rfl rfl (aH s0 (aM (aL (a7 rfl (aA aC (aA (v:=.c (trX p [])) (aF aC (aA (v:=.c (due p)) (iI p (aZ (c:=966) (aB rfl) rfl rfl rfl) (by show 12+dp p≤d;lia)) aD) (tY (by show 1≤d;lia)))
   (aA (v:=.c (.tup ((fI f++pF p).map tdF))) (aF aC (aA (v:=.c (.tup ((fI f++pF p).map fC))) (aW (v:=.c (.tup ((fI f).map fC))) (aF aC (aA (aZ (c:=966) (x:=.tup ((fI f).map fC)) (aB rfl) rfl rfl rfl) aD) (bZ (cs:=[.tup ((fI f).map fC)]) rfl ?_)) (aB rfl) ?_) aD) (iF (is:=fI f++pF p) (gE (by simp;lia)) (by simp;lia) (by show 11≤d;lia))) aD))) rfl))))
  ·exact if_pos hk
  ·show (if ((fI f).map fC).length+((pF p).map fC).length≤lim then some (C.tup ((fI f).map fC++(pF p).map fC)) else none).map V.c=_
   have h':((fI f).map fC).length+((pF p).map fC).length≤lim:=by
    rw [List.length_map,List.length_map];show _≤1000000;lia
   rw [if_pos h',List.map_append];rfl
theorem n9:∀ f,(fI f).filter fR=fI f:=fin3 rfl rfl rfl
theorem GU:∀ o,(kI o).filter fR=[]:=fin12 rfl rfl rfl rfl rfl rfl rfl rfl rfl rfl rfl rfl
theorem j1 (p:P):(aT p).filter fR=pF p:=by
 cases p with
 |leaf k o f=>
  show ((kI o++fI f).filter fR)=fI f
  rw [List.filter_append,GU,n9];rfl
 |one s f p=>exact n9 f
 |two s f p q=>exact n9 f
 |ltr f p=>rfl
theorem gH {b o e:Nat} {fs:List Fi} {k:C} {enc:List Nat} {kids:List C} {inner:C} (hn:fs.length < 900) {d:Nat} (hd:12≤d) {H:List O}:
  CA d (.c (.obj 1077)) [.c (.ins 789 (bC b o e fs k enc kids inner))] H (.c (.tup ((fs.filter fR).map tdF))) H:=by
 obtain ⟨d,rfl⟩:∃ e,d=e+1:=⟨d - 1,by lia⟩
 have h2:(fs.filter fR).length < 900:=Nat.lt_of_le_of_lt (List.length_filter_le ..) hn
 exact aP (f:=f1077) (H1:=[]) rfl rfl rfl (aM (aL (aF aC (aA (aF aC (aA (v:=.c (.lst (fs.map fC))) (aZ (c:=789) (aB rfl) rfl rfl rfl) (aA aC aD)) (rU hn (by show 11≤d;lia))) aD) (iF (i1 h2) h2 (by show 11≤d;lia)))))
noncomputable def hR (n:Nat) (p:P):Prop:=∀ {D pre post:List Nat} {ex:List Fi} {d:Nat} {H:List O},D.length≤400000→D=pre++txt (lnX ex p)++post→ex.length≤3→n≤d→
 CA d (.c (.obj 1082)) [.c (.byt D),.c (pt p pre.length ex)] H (.c (trX p (((ex++aT p).filter fR).map tdF))) H
noncomputable def toE:X:=.cal (.con (.obj 1082)) [.var aY,.var 7039332]
theorem mP {D:List Nat} (hz:D.length≤400000) {k n:Nat} {H:List O}:∀ (ps:List P) (pre post:List Nat) (F:Fm),D=pre++txt (jl k (ps.map (lnX [])))++post→n≤F.d→(∀ p∈ps,hR n p)→lk F.vs aY=some (.c (.byt D))→
  CP toE (.nm 7039332) [] (dS pre.length ps) F H (ps.map due) H
 | [],pre,post,F,hD,hd,hp,k1=>b8
 |p::ps,pre,post,F,hD,hd,hp,k1=>by
  have r1:hR n p:=hp p (by simp)
  have hm:(aN k).length=9:=rfl
  rw [List.map_cons] at hD
  rw [r4 f0] at hD
  have e1:(pre++aN k++[13,10]).length=pre.length+11:=by simp [hm]
  have e2:(pre++aN k++[13,10]++txt (lnX [] p)++[13,10]).length=pre.length+11+(txt (lnX [] p)).length+2:=by simp [hm];lia
  have rd:=r1 (D:=D) (pre:=pre++aN k++[13,10]) (post:=13::10::txt (jl k (ps.map (lnX [])))++post) (ex:=[]) (d:=F.d) (H:=H) hz (by rw [hD];simp) (by decide) hd
  rw [e1,List.nil_append,j1] at rd
  have ih:=mP hz (H:=H) (k:=k) (n:=n) ps (pre++aN k++[13,10]++txt (lnX [] p)++[13,10]) post ⟨F.d,put 7039332 (.c (pt p (pre.length+11) [])) F.vs⟩ (by rw [hD];simp) hd (fun q hq=>hp q (List.mem_cons_of_mem _ hq)) (aE rfl k1)
  rw [e2] at ih
  exact dA aX bE (aF aC (aA (aB (aE rfl k1)) (aA (aB lkp_eq) aD)) rd) ih
theorem mQ {p:P} {s f:Fin 3} {ps:List P} {k:Fin 4} (hbd:bdP p=jl k.val (ps.map (lnX []))) (hne:ps≠[]) (hps:ps.length≤2) {n:Nat} (hr:∀ q∈ps,hR n q)
  {D pre post:List Nat} {ex:List Fi} {d:Nat} {H:List O} (hz:D.length≤400000) (hD:D=pre++txt (lnX ex p)++post) (hxl:ex.length≤3) (hd:14≤d) (hn:n+1≤d):
  CA d (.c (.obj 1082)) [.c (.byt D),.c (.ins 789 (bC pre.length (pre.length+(hb (ex++aT p)).length+2) (pre.length+(txt (lnX ex p)).length) (ex++aT p) (cH s k) s7 (dS (pre.length+(hb (ex++aT p)).length+2) ps) .none))] H
   (.c (.tup [.str eI,.str (s3 s),.tup (ps.map due),.tup (((ex++aT p).filter fR).map tdF)])) H:=by
 obtain ⟨d,rfl⟩:∃ e,d=e+1:=⟨d - 1,by lia⟩
 have hnl:(ex++aT p).length < 900:=by
  have:=iH p
  rw [List.length_append];lia
 let o:=pre.length+(hb (ex++aT p)).length+2
 have hpre:(pre++hb (ex++aT p)++[13,10]).length=o:=by rw [List.length_append,List.length_append];rfl
 have hDk:D=(pre++hb (ex++aT p)++[13,10])++txt (jl k.val (ps.map (lnX [])))++post:=by rw [hD,bY,hbd];simp
 let pp:C:=.ins 789 (bC pre.length o (pre.length+(txt (lnX ex p)).length) (ex++aT p) (cH s k) s7 (dS o ps) .none)
 have tc:=mP hz (k:=k.val) (n:=n) (H:=[]) ps (pre++hb (ex++aT p)++[13,10]) post ⟨d,d6 (dot0::eE (.nm 7039332)) [(aY,.c (.byt D)),(cV,.c pp)]⟩ hDk (by show n≤d;lia) hr rfl
 rw [hpre] at tc
 have hkl:(dS o ps).length≤2:=by
  have:∀ (ps:List P) o,(dS o ps).length=ps.length:=by
   intro ps
   induction ps with
   |nil=>intro o;rfl
   |cons l ps ih=>intro o;simp [dS,ih]
  rw [this];exact hps
 have hok:okL (dS o ps)=true:=okL_le (by lia)
 have hok2:okL (ps.map due)=true:=okL_le (by rw [List.length_map];lia)
 refine aP (f:=f1082) (H1:=[]) (F1:=⟨d,[(aY,.c (.byt D)),(cV,.c pp)]⟩) rfl rfl rfl (aM (aQ (b:=true) (H1:=[]) (aK (v:=.c (.lst (dS o ps))) (aZ (c:=789) (aB rfl) rfl rfl rfl) (aJ (eU rfl aD rfl) ?_))
  (aM (aL (a7 rfl (aA aC (aA (v:=.c (.str (s3 s))) (aZ (c:=510) (v:=.c (cH s k)) (aZ (c:=789) (aB rfl) rfl rfl rfl) rfl rfl rfl)
   (aA (v:=.c (.tup (ps.map due))) (aF aC (aA (cK (x:=.lst (dS o ps)) (aZ (c:=789) (aB rfl) rfl rfl rfl) ?_ ?_ tc) aD) (bZ (cs:=[.lst (ps.map due)]) rfl ?_))
   (aA (aF aC (aA (aB rfl) aD) (gH hnl (by show 12≤d;lia))) aD)))) rfl)))))
 ·rw [rP]
  cases ps with
  |nil=>exact absurd rfl hne
  |cons q ps=>rfl
 ·exact if_pos hok
 ·show (dS o ps).length≤1000000;lia
 ·exact if_pos hok2
theorem vM {k:Fin 4} {oc:Fin 12} {f:Fin 3}:hR 14 (.leaf k oc f):=by
 intro D pre post ex d H hz hD hxl hd
 obtain ⟨d,rfl⟩:∃ e,d=e+1:=⟨d - 1,by lia⟩
 let p:P:=.leaf k oc f
 have hnl:(ex++aT p).length < 900:=by
  have:=iH p
  rw [List.length_append];lia
 let o:=pre.length+(hb (ex++aT p)).length+2
 let hi:=pre.length+(txt (lnX ex p)).length
 have hbd:bdP p=bl oc:=rfl
 have hpre:(pre++hb (ex++aT p)++[13,10]).length=o:=by rw [List.length_append,List.length_append];rfl
 have hDk:D=(pre++hb (ex++aT p)++[13,10])++txt (bl oc)++post:=by rw [hD,bY];simp;rfl
 have hhi:hi=o+(txt (bl oc)).length:=by
  show pre.length+(txt (lnX ex p)).length=pre.length+(hb (ex++aT p)).length+2+(txt (bdP p)).length
  rw [bY]
  simp only [List.length_append,List.length_cons]
  lia
 have hsl:j5 (.byt D) (nat o) (nat hi)=some (.byt (txt (bl oc))):=gD (pre:=pre++hb (ex++aT p)++[13,10]) (x:=txt (bl oc)) (post:=post) (by lia) hDk (by rw [hpre]) (by rw [hpre,hhi])
 let pp:C:=.ins 789 (bC pre.length o hi (ex++aT p) (cM k.val) (hO oc) [] .none)
 have bo:∀ {H},CA d (.c (.obj 850)) [.c (.byt D),.c pp] H (.c (.byt (fQ oc.val))) H:=by
  intro H
  obtain ⟨d,rfl⟩:∃ e,d=e+1:=⟨d - 1,by lia⟩
  exact aP (f:=f850) (H1:=[]) rfl rfl rfl (aM (aL (aF aC (aA (v:=.c (.str (hO oc))) (aZ (c:=789) (aB rfl) rfl rfl rfl) (aA (v:=.c (.byt (txt (bl oc)))) (dH (ca:=nat o) (cb:=nat hi) (aB rfl) (aZ (c:=789) (aB rfl) rfl rfl rfl) (aZ (c:=789) (aB rfl) rfl rfl rfl) rfl hsl) aD)) (bA (f:=f843) rfl (MS oc) (by show 12≤d;lia)))))
 let F:Fm:=⟨d,[(aY,.c (.byt D)),(cV,.c pp)]⟩
 refine aP (f:=f1082) (H1:=[]) (F1:=F) rfl rfl rfl (aH (H1:=[]) (F1:=F) (aQ (b:=false) (H1:=[]) (aK (v:=.c (.lst [])) (aZ (c:=789) (aB rfl) rfl rfl rfl) (aJ (eU rfl aD rfl) rfl)) a5)
  (aH (H1:=[]) (F1:=F) (aQ (b:=false) (H1:=[]) (aK (v:=.c .none) (aZ (c:=789) (aB rfl) rfl rfl rfl) (aJ aC rfl)) a5)
  (aM (aL (a7 rfl (aA aC (aA (v:=.c (kdT k)) (eN (pK k) (a:=486) rfl rfl rfl rfl (aZ (c:=789) (aB rfl) rfl rfl rfl) (bA (f:=f486) rfl (JU k) (by show 9≤d;lia)))
   (aA (v:=.c (.byt (fQ oc.val))) (aF aC (aA (aF aC (aA (aB rfl) (aA (aB rfl) aD)) bo) aD) (bZ (cs:=[.byt (fQ oc.val)]) rfl rfl))
   (aA (aF aC (aA (aB rfl) aD) (gH hnl (by show 12≤d;lia))) aD)))) rfl)))))
theorem pT {p:P} {n:Nat} (ht:hR n p) {D pre post:List Nat} {ex:List Fi} {d:Nat} {H:List O} (hz:D.length≤400000) (hD:D=pre++txt (lnX ex p)++post) (hxl:ex.length≤3) (hd:13≤d) (hn:n+1≤d):
  CA d (.c (.obj 1089)) [.c (.byt D),.c (pt p pre.length ex)] H (.c (.tup [.str jL,trX p [],.tup (((ex++aT p).filter fR).map tdF)])) H:=by
 obtain ⟨d,rfl⟩:∃ e,d=e+1:=⟨d - 1,by lia⟩
 have hnl:(ex++aT p).length < 900:=by
  have:=iH p
  rw [List.length_append];lia
 have of:∀ {H},CA d (.c (.obj 1077)) [.c (pt p pre.length ex)] H (.c (.tup (((ex++aT p).filter fR).map tdF))) H:=by
  intro H
  cases p with
  |leaf k o f=>exact gH hnl (by lia)
  |one s f p=>exact gH hnl (by lia)
  |two s f p q=>exact gH hnl (by lia)
  |ltr f p=>exact gH hnl (by lia)
 exact aP (f:=f1089) (H1:=[]) rfl rfl rfl (aM (aL (a7 rfl (aA aC (aA (aF aC (aA (aF aC (aA (aB rfl) (aA (aB rfl) aD)) (ht hz hD hxl (by show n≤d;lia))) aD) (tY (by show 1≤d;lia))) (aA (aF aC (aA (aB rfl) aD) of) aD))) rfl)))
theorem CG:∀ p,hR (14+2 * dp p) p:=by
 intro p
 induction p with
 |leaf k o f=>exact vM
 |one s f p ih=>
  intro D pre post ex d H hz hD hxl hd
  have hd':14+2 * (1+dp p)≤d:=hd
  exact mQ (p:=.one s f p) (s:=s) (f:=f) (ps:=[p]) (k:=bnd [lnX [] p]) rfl (by simp) (by simp) (n:=14+2 * dp p) (by
   intro q hq
   simp only [List.mem_cons,List.not_mem_nil,or_false] at hq
   subst hq
   intro D pre post ex d H
   exact ih) hz hD hxl (by lia) (by lia)
 |two s f p q ih1 ih2=>
  intro D pre post ex d H hz hD hxl hd
  have hd':14+2 * (1+max (dp p) (dp q))≤d:=hd
  exact mQ (p:=.two s f p q) (s:=s) (f:=f) (ps:=[p,q]) (k:=bnd [lnX [] p,lnX [] q]) rfl (by simp) (by simp) (n:=14+2 * max (dp p) (dp q)) (by
   intro r hr
   simp only [List.mem_cons,List.not_mem_nil,or_false] at hr
   rcases hr with rfl |rfl
   ·intro D pre post ex d H h1 h2 h3 h4
    exact ih1 h1 h2 h3 (by lia)
   ·intro D pre post ex d H h1 h2 h3 h4
    exact ih2 h1 h2 h3 (by lia)) hz hD hxl (by lia) (by lia)
 |ltr f p ih=>
  intro D pre post ex d H hz hD hxl hd
  have hd':14+2 * (1+dp p)≤d:=hd
  obtain ⟨d,rfl⟩:∃ e,d=e+1:=⟨d - 1,by lia⟩
  have hf:=b5 f
  let P0:P:=.ltr f p
  let o:=pre.length+(hb (ex++aT P0)).length+2
  let hi:=pre.length+(txt (lnX ex P0)).length
  have hpre:(pre++hb (ex++aT P0)++[13,10]).length=o:=by rw [List.length_append,List.length_append];rfl
  have hbd:bdP P0=lnX (fI f++[Fi.mv]) p:=rfl
  have lt:=pT (p:=p) (n:=14+2 * dp p) (fun h1 h2 h3 h4=>ih h1 h2 h3 h4) (D:=D) (pre:=pre++hb (ex++aT P0)++[13,10]) (post:=post) (ex:=fI f++[Fi.mv]) (d:=d) (H:=[]) hz (by rw [hD,bY,hbd];simp;rfl) (by simp;lia) (by lia) (by lia)
  rw [hpre] at lt
  have e1:((fI f++[Fi.mv]++aT p).filter fR)=fI f++pF p:=by
   rw [List.filter_append,List.filter_append,n9,j1]
   show fI f++[]++pF p=_
   rw [List.append_nil]
  rw [e1] at lt
  let pp:C:=.ins 789 (bC pre.length o hi (ex++aT P0) dC s7 [] (pt p o (fI f++[Fi.mv])))
  let F:Fm:=⟨d,[(aY,.c (.byt D)),(cV,.c pp)]⟩
  have hin:isNone (V.c (pt p o (fI f++[Fi.mv])))=some false:=by cases p <;> rfl
  refine aP (f:=f1082) (H1:=[]) (F1:=F) rfl rfl rfl (aH (H1:=[]) (F1:=F) (aQ (b:=false) (H1:=[]) (aK (v:=.c (.lst [])) (aZ (c:=789) (aB rfl) rfl rfl rfl) (aJ (eU rfl aD rfl) rfl)) a5)
   (aM (aQ (b:=true) (H1:=[]) (aK (v:=.c (pt p o (fI f++[Fi.mv]))) (aZ (c:=789) (aB rfl) rfl rfl rfl) (aJ aC ?_)) (aM (aL (aF aC (aA (aB rfl) (aA (v:=.c (pt p o (fI f++[Fi.mv]))) (aZ (c:=789) (aB rfl) rfl rfl rfl) aD)) lt))))))
  show (isNone (V.c (pt p o (fI f++[Fi.mv])))).map (· == false)=some true
  rw [hin];rfl
noncomputable def okP:Option Nat→List Nat→Prop
 |_,[]=>True
 |prev,c::l=>(1≤c∧c≤127)∧(c=13→∃ t,l=10::t)∧(c=10→prev=some 13)∧okP (some c) l
theorem kX:∀ (x:List Nat) (prev:Option Nat) (rest:List Nat),(∀ c∈x,1≤c∧c≤127∧c≠10∧c≠13)→(∀ prev,okP prev rest)→okP prev (x++rest)
 | [],prev,rest,h,hr=>hr prev
 |c::x,prev,rest,h,hr=>by
  obtain ⟨h1,h2,h3,h4⟩:=h c (by simp)
  exact ⟨⟨h1,h2⟩,fun e=>absurd e h4,fun e=>absurd e h3,kX x _ rest (fun z hz=>h z (List.mem_cons_of_mem _ hz)) hr⟩
theorem pU {x:List Nat} (h:c7 x=true):∀ c∈x,1≤c∧c≤127∧c≠10∧c≠13:=by
 intro c hc
 obtain ⟨h1,h2⟩:=GI h c hc
 exact ⟨h1,h2,fun e=>nV h (e ▸ hc),fun e=>tS h (e ▸ hc)⟩
theorem tZ:∀ (ls:List (List Nat)),(∀ x∈ls,c7 x=true)→∀ prev,okP prev (txt ls)
 | [],h,prev=>trivial
 | [x],h,prev=>by
  have:=kX x prev [] (pU (h x (by simp))) (fun _=>trivial)
  rwa [List.append_nil] at this
 |x::y::l,h,prev=>by
  have ih:=tZ (y::l) (fun z hz=>h z (List.mem_cons_of_mem _ hz))
  exact kX x prev (13::10::txt (y::l)) (pU (h x (by simp))) fun p=>⟨⟨by decide,by decide⟩,fun _=>⟨_,rfl⟩,fun e=>absurd e (by decide),⟨by decide,by decide⟩,fun e=>absurd e (by decide),fun _=>rfl,ih _⟩
noncomputable def ipS:S:=(f1132.body[0]?).getD .bad
theorem CI {D:List Nat} (hz:D.length≤400000) {H:List O}:∀ (rest pre:List Nat) (F:Fm),D=pre++rest→okP pre.getLast? rest→lk F.vs aY=some (.c (.byt D))→
  ∃ F',lk F'.vs aY=some (.c (.byt D))∧LP (lpT ipS) (lpB ipS) (l6 (pre.length:Int) 1 rest.length) F H .nx F' H:=by
 have okD:okL D=true:=okL_le (by lia)
 intro rest
 induction rest with
 |nil=>intro pre F hD hp k;exact ⟨F,k,w0⟩
 |cons c rest ih=>
  intro pre F hD hp k
  obtain ⟨hr,h13,h10,hp'⟩:=hp
  have hpl:((pre++[c]).length:Int)=(pre.length:Int)+1:=by simp
  obtain ⟨F',kF,hF⟩:=ih (pre++[c]) ⟨F.d,put zA (.c (nat pre.length)) F.vs⟩ (by rw [hD];simp) (by rw [List.getLast?_append];exact hp') (aE rfl k)
  rw [hpl] at hF
  refine ⟨F',kF,vG (F1:=⟨F.d,put zA (.c (nat pre.length)) F.vs⟩) aX (aH (H1:=H) (F1:=⟨F.d,put zA (.c (nat pre.length)) F.vs⟩) (aQ (b:=false) ?_ a5) (aH (H1:=H) (F1:=⟨F.d,put zA (.c (nat pre.length)) F.vs⟩) (aQ (b:=false) ?_ a5) a5)) hF⟩
  ·have ei:EX (.idx (.var aY) (.var zA)) ⟨F.d,put zA (.c (nat pre.length)) F.vs⟩ H (.c (nat c)) H:=bK (aB (aE rfl k)) (aB lkp_eq) rfl (kJ (by lia) hD)
   refine dI (a:=false) (b7 (H1:=H) (wX (b:=true) (aK aC (FZ ei ?_ (aJ aC ?_)))) (b7 (H1:=H) (dI (a:=true) ?_) eG))
   ·exact congrArg some (decide_eq_true (by lia))
   ·exact congrArg some (decide_eq_true (by lia))
   ·by_cases q:c=13
    ·obtain ⟨t,ht⟩:=h13 q
     subst q
     refine b7 (H1:=H) (aK ei (aJ aC rfl)) (dY (a:=true) (aK (dH (x:=.byt [10]) (aB (aE rfl k)) (aW (aB lkp_eq) aC rfl) (aW (aB lkp_eq) aC rfl) rfl ?_) (aJ aC rfl)))
     exact gD (pre:=pre++[13]) (x:=[10]) (post:=t) (by lia) (by rw [hD,ht];simp) (by simp) (by simp;lia)
    ·refine dY (aK ei (aJ aC ?_))
     show some ((c:Int) == 13)=some false
     exact congrArg some (beq_eq_false_iff_ne.mpr (by lia))
  ·have ei:EX (.idx (.var aY) (.var zA)) ⟨F.d,put zA (.c (nat pre.length)) F.vs⟩ H (.c (nat c)) H:=bK (aB (aE rfl k)) (aB lkp_eq) rfl (kJ (by lia) hD)
   refine dI (a:=true) ?_
   by_cases q:c=10
   ·have hl:=h10 q
    subst q
    obtain ⟨pre',rfl⟩:∃ p',pre=p'++[13]:=by
     obtain ⟨y,e⟩:=List.getLast?_eq_some_iff.mp hl
     exact ⟨y,e⟩
    refine b7 (H1:=H) (aK ei (aJ aC rfl)) (dY (a:=true) (dI (a:=false) (b:=false) (b7 (H1:=H) (aK (aB lkp_eq) (aJ aC ?_)) (b7 (H1:=H) (aK (v:=.c (nat 13)) (bK (x:=nat 13) (aB (aE rfl k)) (aW (aB lkp_eq) aC rfl) rfl ?_) (aJ aC rfl)) eG))))
    ·show some (((pre'++[13]).length:Int) == 0)=some false
     exact congrArg some (beq_eq_false_iff_ne.mpr (by simp;lia))
    ·have e1:((pre'++[13]).length:Int) - 1=(pre'.length:Int):=by simp
     show iX (.byt D) (.int (((pre'++[13]).length:Int) - 1))=_
     rw [e1]
     exact kJ (post:=10::rest) (by lia) (by rw [hD];simp)
   ·refine dY (aK ei (aJ aC ?_))
    show some ((c:Int) == 10)=some false
    exact congrArg some (beq_eq_false_iff_ne.mpr (by lia))
theorem kY:∀ (x rest acc:List Nat),13∉x→bH (x++13::10::rest) acc=(acc.reverse++x)::bH rest []
 | [],rest,acc,h=>by simp [bH]
 |c::x,rest,acc,h=>by
  simp only [List.mem_cons,not_or] at h
  rw [List.cons_append,bH]
  ·rw [kY x rest (c::acc) h.2];simp
  ·intro l e;exact absurd e.symm h.1
theorem kZ:∀ (x acc:List Nat),13∉x→bH x acc=[acc.reverse++x]
 | [],acc,h=>by simp [bH]
 |c::x,acc,h=>by
  simp only [List.mem_cons,not_or] at h
  rw [bH]
  ·rw [kZ x (c::acc) h.2];simp
  ·intro l e;exact absurd e.symm h.1
theorem mR:∀ (ls:List (List Nat)),ls≠[]→(∀ x∈ls,13∉x)→bH (txt ls) []=ls
 | [],h,_=>absurd rfl h
 | [x],h,h13=>by rw [txt,kZ x [] (h13 x (by simp))];rfl
 |x::y::l,h,h13=>by
  rw [txt,kY x _ [] (h13 x (by simp)),mR (y::l) (by simp) (fun z hz=>h13 z (List.mem_cons_of_mem _ hz))];rfl
theorem t0:∀ (l:List Int) (a:Int),a≤78→(∀ b∈l,b≤78)→j6 a l≤78
 | [],a,h,hl=>h
 |b::l,a,h,hl=>by
  rw [j6]
  refine t0 l _ ?_ fun z hz=>hl z (List.mem_cons_of_mem _ hz)
  split
  ·exact hl b (by simp)
  ·exact h
theorem k6:∀ l:List (List Nat),eF (l.map fun x=>nat x.length)=some (l.map fun x=>(x.length:Int))
 | []=>rfl
 |x::l=>congrArg (Option.bind · fun l=>some ((x.length:Int)::l)) (k6 l)
theorem pV {H:List O}:∀ (ls:List (List Nat)) (F:Fm),(∀ x∈ls,x.length≤78)→CP (.cal (.con (.blt .len)) [.var zJ]) (.nm zJ) [] (ls.map C.byt) F H (ls.map fun x=>nat x.length) H
 | [],F,h=>b8
 |x::ls,F,h=>by
  have hx:=h x (by simp)
  have ok:okL x=true:=okL_le (by lia)
  refine dA aX bE (aF aC (aA (aB lkp_eq) aD) (a9 (cs:=[.byt x]) rfl ?_)) (pV ls ⟨F.d,put zJ (.c (.byt x)) F.vs⟩ fun z hz=>h z (List.mem_cons_of_mem _ hz))
  exact if_pos ok
theorem xV (n:Nat):nK 0 (n:Int) 1=n:=by
 unfold nK
 rw [if_pos (by decide)]
 split
 ·rw [Int.ediv_one];lia
 ·lia
theorem xW {ls:List (List Nat)} (hg:∀ x∈ls,c7 x=true) (hne:ls≠[]) (hz:(txt ls).length≤400000) {d:Nat} (hd:1≤d) {H:List O}:CA d (.c (.obj 1132)) [.c (.byt (txt ls))] H (.c (.bool true)) H:=by
 obtain ⟨d,rfl⟩:∃ e,d=e+1:=⟨d - 1,by lia⟩
 have okD:okL (txt ls)=true:=okL_le (by lia)
 have hll:=dR ls
 have okI:okI ((txt ls).length:Int)=true:=Nat.ble_eq_true_of_le (by show (txt ls).length≤1000000;lia)
 obtain ⟨F',kF,hF⟩:=CI (D:=txt ls) hz (H:=[]) (txt ls) [] ⟨d,[(aY,.c (.byt (txt ls)))]⟩ rfl (tZ ls hg _) rfl
 have okls:okL (ls.map C.byt)=true:=okL_le (by rw [List.length_map];lia)
 obtain ⟨m,hm,hm78⟩:∃ m:Int,iY .max [.lst (ls.map fun x=>nat x.length)]=some (.int m)∧m≤78:=by
  cases ls with
  |nil=>exact absurd rfl hne
  |cons x l=>
   refine ⟨j6 (x.length:Int) (l.map fun x=>(x.length:Int)),?_,t0 _ _ ?_ ?_⟩
   ·show (eF ((x::l).map fun x=>nat x.length)).bind JB=_
    rw [k6];rfl
   ·have:=nW (hg x (by simp));lia
   ·intro b hb
    obtain ⟨y,hy,rfl⟩:=List.mem_map.mp hb
    have:=nW (hg y (List.mem_cons_of_mem _ hy));lia
 have e3:hG .bsplit (.byt (txt ls)) [.byt [13,10]]=some (.lst (ls.map C.byt)):=by
  refine (if_pos okD).trans ?_
  show some (C.lst ((bH (txt ls) []).map C.byt))=_
  rw [mR ls hne fun x hx=>tS (hg x hx)]
 refine aP (f:=f1132) (H1:=[]) rfl rfl rfl (aH (H1:=[]) (F1:=F') (nN (v:=.c (.rng 0 ((txt ls).length:Int) 1)) (aF aC (aA (v:=.c (nat (txt ls).length)) (aF aC (aA (aB rfl) aD) (a9 (cs:=[.byt (txt ls)]) rfl ?_)) aD) (bZ (cs:=[nat (txt ls).length]) rfl ?_)) (cs:=l6 0 1 (txt ls).length) ?_ hF)
  (aM (aL (mG (v:=.c (.int m)) (aF aC (aA (v:=.c (.lst (ls.map fun x=>nat x.length))) (cK (x:=.lst (ls.map C.byt)) (cs:=ls.map C.byt) (H1:=[]) (eZ (aB kF) (g:=.bm .bsplit) rfl (aA aC aD) (F6 rfl rfl rfl e3)) ?_ ?_ (pV ls _ (fun x hx=>nW (hg x hx)))) aD) (a9 (cs:=[.lst (ls.map fun x=>nat x.length)]) rfl hm)) (aJ aC ?_)))))
 ·exact if_pos okD
 ·exact if_pos okI
 ·show some (l6 0 1 (nK 0 ((txt ls).length:Int) 1))=_
  rw [xV]
 ·exact if_pos okls
 ·rw [List.length_map];show _≤1000000;lia
 ·exact congrArg some (decide_eq_true hm78)
noncomputable abbrev cW:Nat:=zV
noncomputable def TH (ns:List Int) (at_:Nat):List O:=[.lst [.lst (ns.map C.int),nat at_]]
theorem fG {ns:List Int} (hne:ns≠[]) (hl:ns.length≤1000) {a:Nat} (ha:a≤100000) {lim':Nat} (h0:0 < lim') {d:Nat} (hd:1≤d):∃ v,v < lim'∧CA d (.c (.obj 1108)) [.r 0,.c (nat lim')] (TH ns a) (.c (nat v)) (TH ns (a+1)):=by
 obtain ⟨d,rfl⟩:∃ e,d=e+1:=⟨d - 1,by lia⟩
 have hpos:0 < ns.length:=by
  cases ns with
  |nil=>exact absurd rfl hne
  |cons n ns=>simp
 have hm:a % ns.length < ns.length:=Nat.mod_lt _ hpos
 have hcl:(ns.map C.int).length=ns.length:=List.length_map ..
 have okc:okL (ns.map C.int)=true:=okL_le (by lia)
 let x:Int:=ns[a % ns.length]
 let q:Int:=((a / ns.length:Nat):Int)
 let y:Int:=x+q * (7 * (a:Int)+3)
 have hlp:(0:Int) < (lim':Int):=by lia
 have hy0:0≤y.fmod (lim':Int):=by
  rw [Int.fmod_eq_emod_of_nonneg _ (by lia)];exact Int.emod_nonneg _ (by lia)
 have hy1:y.fmod (lim':Int) < (lim':Int):=by
  rw [Int.fmod_eq_emod_of_nonneg _ (by lia)];exact Int.emod_lt_of_pos _ hlp
 refine ⟨(y.fmod (lim':Int)).toNat,by lia,?_⟩
 have ev:nat (y.fmod (lim':Int)).toNat= .int (y.fmod (lim':Int)):=congrArg C.int (by lia)
 rw [ev]
 let F0:Fm:=⟨d,[(cW,.r 0),(465625246068,.c (nat lim'))]⟩
 let F1:Fm:=⟨d,[(cW,.r 0),(465625246068,.c (nat lim')),(426903366771,.c (.lst (ns.map C.int)))]⟩
 let F2:Fm:=⟨d,[(cW,.r 0),(465625246068,.c (nat lim')),(426903366771,.c (.lst (ns.map C.int))),(zA,.c (nat a))]⟩
 have bl:∀ {H},EX (.cal (.con (.blt .len)) [.var 426903366771]) F2 H (.c (nat ns.length)) H:=by
  intro H
  refine aF aC (aA (aB rfl) aD) (a9 (cs:=[.lst (ns.map C.int)]) rfl ?_)
  exact (if_pos okc).trans (by rw [hcl])
 refine mK (f:=f1108) (H:=TH ns a) (H1:=TH ns (a+1)) (F1:=F2) (v:=.c (.int (y.fmod (lim':Int)))) rfl rfl rfl ?_ rfl
 refine aH (F1:=F1) (H1:=TH ns a) (aG (v:=.c (.lst (ns.map C.int))) (bK (aB rfl) aC rfl rfl) aX) ?_
 refine aH (F1:=F2) (H1:=TH ns a) (aG (v:=.c (nat a)) (bK (aB rfl) aC rfl rfl) aX) ?_
 refine aH (F1:=F2) (H1:=TH ns (a+1)) (aG (v:=.c (nat (a+1))) (aW (aB rfl) aC rfl) (JI (F:=F2) (n:=0) (k:=1) (j:=1) (l:=[.lst (ns.map C.int),nat a]) (H1:=TH ns a) (H2:=TH ns a) (x:=nat (a+1)) (aB rfl) aC rfl rfl)) ?_
 refine aM (aL (aW (v:=.c (.int y)) (aW (v:=.c (.int x)) (w:=.c (.int (q * (7 * (a:Int)+3)))) (bK (x:=.int x) (ci:=nat (a % ns.length)) (aB rfl) (aW (aB rfl) bl ?_) rfl ?_) (aW (v:=.c (.int q)) (w:=.c (.int (7 * (a:Int)+3))) (aW (aB rfl) bl ?_) (aW (aW (v:=.c (.int 7)) aC (aB rfl) rfl) aC rfl) ?_) rfl) (aB rfl) ?_))
 ·show (if (ns.length:Int)=0 then none else some (C.int ((a:Int).fmod (ns.length:Int)))).map V.c=_
  rw [if_neg (by lia)]
  show some (V.c (C.int ((a:Int).fmod (ns.length:Int))))=some (V.c (C.int _))
  congr 3
  rw [Int.fmod_eq_emod_of_nonneg _ (by lia)];rfl
 ·have h1:ix? (((a % ns.length:Nat)):Int) (ns.map C.int).length=some (a % ns.length):=by
   unfold ix?
   rw [hcl,if_pos (by lia),if_pos (by lia)];rfl
  have h2:(ns.map C.int)[a % ns.length]? =some (C.int x):=by
   rw [List.getElem?_map,List.getElem?_eq_getElem hm];rfl
  exact (if_pos okc).trans (by rw [h1];exact h2)
 ·show (if (ns.length:Int)=0 then none else if Nat.blt (ns.length:Int).natAbs 1073741824 then some (C.int ((a:Int).fdiv (ns.length:Int))) else none).map V.c=_
  rw [if_neg (by lia),if_pos (by
   show Nat.blt ns.length 1073741824=true
   exact Nat.ble_eq_true_of_le (by lia))]
  show some (V.c (C.int ((a:Int).fdiv (ns.length:Int))))=some (V.c (C.int _))
  congr 3
  rw [Int.fdiv_eq_ediv_of_nonneg _ (by lia)];rfl
 ·show (if (g9 q || g9 (7 * (a:Int)+3))=true then some (C.int (q * (7 * (a:Int)+3))) else none).map V.c=_
  have hq:g9 q=true:=by
   show Nat.blt q.natAbs big=true
   have:a / ns.length≤a:=Nat.div_le_self ..
   have e:q.natAbs=a / ns.length:=rfl
   rw [e]
   exact Nat.ble_eq_true_of_le (by show a / ns.length+1≤18446744073709551616;lia)
  rw [hq];rfl
 ·show (if (lim':Int)=0 then none else some (C.int (y.fmod (lim':Int)))).map V.c=_
  rw [if_neg (by lia)];rfl
noncomputable abbrev iJ:Nat:=zF
noncomputable abbrev i5:Nat:=zBK
noncomputable abbrev i6:Nat:=1936683636
noncomputable abbrev k7:Nat:=z6
noncomputable def J8:List C:=[.tup [],.tup [],.tup [],.tup [fC .xa],.tup [fC .sj,fC .xb]]
noncomputable def J9:List C:=[.tup [],.tup [],.tup [],.tup [tdF .xa],.tup [tdF .sj,tdF .xb]]
theorem GV:∀ v,v < 5→∃ f:Fin 3,iX (.lst J8) (nat v)=some (.tup ((fI f).map fC))∧iX (.lst J9) (nat v)=some (.tup ((fI f).map tdF)):=by
 intro v hv
 have:v=0∨v=1∨v=2∨v=3∨v=4:=by lia
 rcases this with rfl |rfl |rfl |rfl |rfl
 ·exact ⟨⟨0,by decide⟩,rfl,rfl⟩
 ·exact ⟨⟨0,by decide⟩,rfl,rfl⟩
 ·exact ⟨⟨0,by decide⟩,rfl,rfl⟩
 ·exact ⟨⟨1,by decide⟩,rfl,rfl⟩
 ·exact ⟨⟨2,by decide⟩,rfl,rfl⟩
theorem k8 {ns:List Int} (hne:ns≠[]) (hl:ns.length≤1000) {a:Nat} (ha:a≤100000) {d:Nat} (hd:2≤d):∃ f:Fin 3,CA d (.c (.obj 1115)) [.r 0] (TH ns a) (.c (.tup [.tup ((fI f).map fC),.tup ((fI f).map tdF)])) (TH ns (a+1)):=by
 obtain ⟨d,rfl⟩:∃ e,d=e+2:=⟨d - 2,by lia⟩
 obtain ⟨v,hv,hdr⟩:=fG hne hl ha (lim':=5) (by decide) (d:=d+1) (by lia)
 obtain ⟨f,h1,h2⟩:=GV v hv
 refine ⟨f,?_⟩
 let F0:Fm:=⟨d+1,[(cW,.r 0)]⟩
 let F1:Fm:=⟨d+1,[(cW,.r 0),(431415719790,.c (nat v))]⟩
 let F2:Fm:=⟨d+1,[(cW,.r 0),(431415719790,.c (nat v)),(iJ,.c (.tup ((fI f).map fC)))]⟩
 have fld:∀ {n r:List Nat} {H},CA (d+1) (.c (.obj 263)) [.c (.byt n),.c (.byt r)] H (.c (GA n r)) H:=by
  intro n r H
  exact dP (ps:=[zK,zAB]) (ds:=[]) rfl rfl rfl rfl
 refine mK (f:=f1115) (H:=TH ns a) (H1:=TH ns (a+1)) (F1:=F2) (v:=.c (.tup [.tup ((fI f).map fC),.tup ((fI f).map tdF)])) rfl rfl rfl ?_ rfl
 refine aH (F1:=F1) (H1:=TH ns (a+1)) (aG (v:=.c (nat v)) (aF aC (aA (aB rfl) (aA aC aD)) hdr) aX) ?_
 refine aH (F1:=F2) (H1:=TH ns (a+1)) (aG (v:=.c (.tup ((fI f).map fC))) (bK (v:=.c (.lst J8)) (eU rfl (aA (v:=.c (.tup [])) (a7 rfl aD rfl) (aA (v:=.c (.tup [])) (a7 rfl aD rfl) (aA (v:=.c (.tup [])) (a7 rfl aD rfl) (aA (v:=.c (.tup [fC .xa])) (a7 rfl (aA (aF aC (aA aC (aA aC aD)) fld) aD) rfl)
  (aA (v:=.c (.tup [fC .sj,fC .xb])) (a7 rfl (aA (aF aC (aA aC (aA aC aD)) fld) (aA (aF aC (aA aC (aA aC aD)) fld) aD)) rfl) aD))))) rfl) (aB rfl) rfl h1) aX) ?_
 refine aM (aL (a7 rfl (aA (aB rfl) (aA (v:=.c (.tup ((fI f).map tdF))) (bK (v:=.c (.lst J9)) (eU rfl (aA (v:=.c (.tup [])) (a7 rfl aD rfl) (aA (v:=.c (.tup [])) (a7 rfl aD rfl) (aA (v:=.c (.tup [])) (a7 rfl aD rfl) (aA (v:=.c (.tup [tdF .xa])) (a7 rfl (aA (v:=.c (tdF .xa)) (a7 rfl (aA aC (aA aC aD)) rfl) aD) rfl)
  (aA (v:=.c (.tup [tdF .sj,tdF .xb])) (a7 rfl (aA (v:=.c (tdF .sj)) (a7 rfl (aA aC (aA aC aD)) rfl) (aA (v:=.c (tdF .xb)) (a7 rfl (aA aC (aA aC aD)) rfl) aD)) rfl) aD))))) rfl) (aB rfl) rfl h2) aD)) rfl))
theorem KC:∀ k:Fin 4,∃ a b c e,kdT k= .tup [a,b,c]∧iZ .dict [c]=some e∧cM k.val= .ins 510 [(zAS,a),(z5,b),(zAT,e)]:=
 fin4 ⟨_,_,_,_,rfl,rfl,rfl⟩ ⟨_,_,_,_,rfl,rfl,rfl⟩ ⟨_,_,_,_,rfl,rfl,rfl⟩ ⟨_,_,_,_,rfl,rfl,rfl⟩
theorem t4 {p:P} {F:Fm} {H:List O} (k:lk F.vs k7=some (.c (due p))):EX (.ite (.cmp (.idx (.var k7) (.con (.int 0))) [.Eq] [.con (.str [108,101,116,116,101,114])]) (.tup []) (.idx (.var k7) (.neg (.con (.int 1))))) F H (.c (.tup ((pF p).map tdF))) H:=by
 cases p with
 |leaf k' o f=>exact b6 (b:=false) (aK (v:=.c (.str mO)) (bK (aB k) aC rfl rfl) (aJ aC rfl)) (bK (aB k) (gO aC) rfl rfl)
 |one s f p=>exact b6 (b:=false) (aK (v:=.c (.str eI)) (bK (aB k) aC rfl rfl) (aJ aC rfl)) (bK (aB k) (gO aC) rfl rfl)
 |two s f p q=>exact b6 (b:=false) (aK (v:=.c (.str eI)) (bK (aB k) aC rfl rfl) (aJ aC rfl)) (bK (aB k) (gO aC) rfl rfl)
 |ltr f p=>exact b6 (b:=true) (aK (v:=.c (.str jL)) (bK (aB k) aC rfl rfl) (aJ aC rfl)) (a7 rfl aD rfl)
theorem CJ:∀ o:Fin 12,iX (.tup [(.byt []),(.byt [97,13,10,98]),(.byt [45,45,61,95,112,97,114,116,48,13,10,120]),(.byt [0,255]),(.byt [99,97,102,195,169,32,61,32,13,10]),(.byt [120,10]),(.byt [101,110,100,32,13,10]),(.byt [45,45,61,95,112,97,114,116,49,45,45,13,10,45,45,61,95,112,97,114,116,48,45,45]),(.byt [97,13,98]),(.byt [32]),(.byt [13,10]),(.byt [67,111,110,116,101,110,116,45,84,121,112,101,58,32,116,101,120,116,47,104,116,109,108,13,10,13,10,46])]) (nat o.val)=some (.byt (fQ o.val)):=
 fin12 rfl rfl rfl rfl rfl rfl rfl rfl rfl rfl rfl rfl
theorem GW:∀ k:Fin 4,iX (.tup [(.tup [(.str [116,101,120,116]),(.str [112,108,97,105,110]),(.tup [(.tup [(.str [99,104,97,114,115,101,116]),(.str [117,116,102,45,56])])])]),(.tup [(.str [116,101,120,116]),(.str [104,116,109,108]),(.tup [])]),(.tup [(.str [97,112,112,108,105,99,97,116,105,111,110]),(.str [120,45,97]),(.tup [(.tup [(.str [110,97,109,101]),(.str [97,32,98])])])]),(.tup [(.str [105,109,97,103,101]),(.str [112,110,103]),(.tup [])])]) (nat k.val)=some (kdT k):=
 fin4 rfl rfl rfl rfl
theorem CK:∀ s:Fin 3,iX (.tup [.str [109,105,120,101,100],.str [100,105,103,101,115,116],.str [97,108,116,101,114,110,97,116,105,118,101]]) (nat s.val)=some (.str (s3 s)):=fin3 rfl rfl rfl
theorem CM {ns:List Int} (hne:ns≠[]) (hl:ns.length≤1000) {a:Nat} (ha:a≤90000) {d dep:Nat} (hd:2≤d) {srt:Nat} {f:Fin 3}:
  ∃ k o F',SS (f1127.body.drop 4) ⟨d,[(cW,.r 0),(c8,.c (nat dep)),(i6,.c (nat srt)),(iJ,.c (.tup ((fI f).map fC))),(i5,.c (.tup ((fI f).map tdF)))]⟩ (TH ns a) (.rt (.c (.tup [pc (.leaf k o f),due (.leaf k o f)]))) F' (TH ns (a+2)):=by
 obtain ⟨v,hv,hdr⟩:=fG hne hl (a:=a) (by lia) (lim':=4) (by decide) (d:=d) (by lia)
 obtain ⟨u,hu,hdr2⟩:=fG hne hl (a:=a+1) (by lia) (lim':=12) (by decide) (d:=d) (by lia)
 obtain ⟨k,rfl⟩:∃ k:Fin 4,v=k.val:=⟨⟨v,hv⟩,rfl⟩
 obtain ⟨o,rfl⟩:∃ o:Fin 12,u=o.val:=⟨⟨u,hu⟩,rfl⟩
 obtain ⟨x,y,z,e,h1,h2,h3⟩:=KC k
 let vs:List (Nat × V):=[(cW,.r 0),(c8,.c (nat dep)),(i6,.c (nat srt)),(iJ,.c (.tup ((fI f).map fC))),(i5,.c (.tup ((fI f).map tdF)))]
 let F2:Fm:=⟨d,vs++[(zM,.c (kdT k)),(zC,.c (.byt (fQ o.val)))]⟩
 obtain ⟨d',hd'⟩:∃ e,d=e+1:=⟨d - 1,by lia⟩
 have ev:∀ {c:C} {j:Nat} {H},(match j with |0=>c=x |1=>c=y |_=>c=z)→j < 3→EX (.idx (.var zM) (.con (.int (j:Nat)))) F2 H (.c c) H:=by
  intro c j H hc hj
  refine bK (v:=.c (kdT k)) (aB rfl) aC rfl ?_
  rw [h1]
  match j,hc,hj with
  |0,hc,_=>subst hc;rfl
  |1,hc,_=>subst hc;rfl
  |2,hc,_=>subst hc;rfl
 refine ⟨k,o,F2,?_⟩
 refine aH (F1:=⟨d,vs++[(zM,.c (kdT k))]⟩) (H1:=TH ns (a+1)) (aG (v:=.c (kdT k)) (bK aC (aF aC (aA (aB rfl) (aA aC aD)) hdr) rfl (GW k)) aX) ?_
 refine aH (F1:=F2) (H1:=TH ns (a+2)) (aG (v:=.c (.byt (fQ o.val))) (bK aC (aF aC (aA (aB rfl) (aA aC aD)) hdr2) rfl (CJ o)) aX) ?_
 refine aM (aL (a7 rfl (aA (H1:=TH ns (a+2)) (v:=.c (pc (.leaf k o f))) (aF (H2:=TH ns (a+2)) aC (aA (H1:=TH ns (a+2)) (v:=.c (cM k.val)) (aF (H2:=TH ns (a+2)) aC (aA (ev (j:=0) (c:=x) rfl (by decide)) (aA (ev (j:=1) (c:=y) rfl (by decide)) (aA (v:=.c e) (aF aC (aA (ev (j:=2) (c:=z) rfl (by decide)) aD) (bZ (cs:=[z]) rfl h2)) aD))) ?_) (aA (aB rfl) (aA (aB rfl) aD))) ?_)
  (aA (v:=.c (due (.leaf k o f))) (a7 rfl (aA aC (aA (aB rfl) (aA (aB rfl) (aA (aB rfl) aD)))) rfl) aD)) rfl))
 ·rw [h3]
  show CA d _ _ _ _ _
  rw [hd']
  exact dP (ps:=[zAS,z5,zAT]) (ds:=[]) rfl rfl rfl rfl
 ·show CA d _ _ _ _ _
  rw [hd']
  exact dP (ps:=[zM,zC,zF]) (ds:=[.tup []]) rfl rfl rfl rfl
theorem xX (p:P):(pF p).length≤2:=by
 cases p with
 |leaf k o f=>exact b5 f
 |one s f p=>exact b5 f
 |two s f p q=>exact b5 f
 |ltr f p=>exact Nat.zero_le _
theorem KD {H:List O} {a b:List C} (h:a.length+b.length≤1000000):rK H .Add (.c (.tup a)) (.c (.tup b))=some (.c (.tup (a++b))):=by
 show (vF .Add (.tup a) (.tup b)).map V.c=_
 have h':a.length+b.length≤lim:=h
 exact congrArg (Option.map V.c) (if_pos h')
noncomputable def lpF (d dep srt:Nat) (f:Fin 3):Fm:=⟨d,[(cW,.r 0),(c8,.c (nat dep)),(i6,.c (nat srt)),(iJ,.c (.tup ((fI f).map fC))),(i5,.c (.tup ((fI f).map tdF)))]⟩
theorem t6 {ns:List Int} (hne:ns≠[]) (hl:ns.length≤1000) {a:Nat} (ha:a≤90000) {d dep:Nat} (hd:2≤d) {srt:Nat} (h3:srt≠3) (h4:srt≠4) {f:Fin 3}:
  ∃ k o F',SS (f1127.body.drop 2) (lpF d dep srt f) (TH ns a) (.rt (.c (.tup [pc (.leaf k o f),due (.leaf k o f)]))) F' (TH ns (a+2)):=by
 obtain ⟨k,o,F',h⟩:=CM hne hl ha (dep:=dep) hd (srt:=srt) (f:=f)
 refine ⟨k,o,F',aH (H1:=TH ns a) (F1:=lpF d dep srt f) (aQ (b:=false) (aK (aB rfl) (aJ aC ?_)) a5) (aH (H1:=TH ns a) (F1:=lpF d dep srt f) (aQ (b:=false) (aK (aB rfl) (aJ aC ?_)) a5) h)⟩
 ·show some ((srt:Int) == 3)=some false
  exact congrArg some (beq_eq_false_iff_ne.mpr (by lia))
 ·show some ((srt:Int) == 4)=some false
  exact congrArg some (beq_eq_false_iff_ne.mpr (by lia))
theorem pW {ns:List Int} {a a1 a':Nat} {d dep srt:Nat} {f:Fin 3} {p:P} {F':Fm}
  (h0:ST f1127.body[0] ⟨d,[(cW,.r 0),(c8,.c (nat dep))]⟩ (TH ns a) .nx ⟨d,[(cW,.r 0),(c8,.c (nat dep)),(i6,.c (nat srt))]⟩ (TH ns a1))
  (hf:CA d (.c (.obj 1115)) [.r 0] (TH ns a1) (.c (.tup [.tup ((fI f).map fC),.tup ((fI f).map tdF)])) (TH ns (a1+1)))
  (h:SS (f1127.body.drop 2) (lpF d dep srt f) (TH ns (a1+1)) (.rt (.c (.tup [pc p,due p]))) F' (TH ns a')):
  CA (d+1) (.c (.obj 1127)) [.r 0,.c (nat dep)] (TH ns a) (.c (.tup [pc p,due p])) (TH ns a'):=
 mK (f:=f1127) (H:=TH ns a) (H1:=TH ns a') (F1:=F') (v:=.c (.tup [pc p,due p])) rfl rfl rfl
  (aH h0 (aH (F1:=lpF d dep srt f) (H1:=TH ns (a1+1)) (aG (v:=.c (.tup [.tup ((fI f).map fC),.tup ((fI f).map tdF)])) (aF aC (aA (aB rfl) aD) hf) tp2) h)) rfl
noncomputable def j2 (m dep:Nat):Prop:=∀ {ns:List Int},ns≠[]→ns.length≤1000→∀ {a:Nat},a+10 * 3 ^ m≤90000→∀ {d},4+m≤d→∃ p a',dp p≤m∧a'≤a+10 * 3 ^ m∧CA d (.c (.obj 1127)) [.r 0,.c (nat dep)] (TH ns a) (.c (.tup [pc p,due p])) (TH ns a')
noncomputable def prC (p:P):C:=.tup [pc p,due p]
noncomputable abbrev j3:Nat:=zAV
theorem t7 {ns:List Int} (hne:ns≠[]) (hl:ns.length≤1000) {a:Nat} (ha:a≤90000) {d dep:Nat} (hd:2≤d) {f:Fin 3} (ps:List P) (hps:ps.length≤2):
  ∃ s F',SS ((match f1127.body[2] with | .ite _ b _=>b |_=>[]).drop 1) ⟨d,(lpF d dep 3 f).vs++[(j3,.c (.lst (ps.map prC)))]⟩ (TH ns a) (.rt (.c (.tup [mC s f ps,.tup [.str eI,.str (s3 s),.tup (ps.map due),.tup ((fI f).map tdF)]]))) F' (TH ns (a+1)):=by
 obtain ⟨v,hv,hdr⟩:=fG hne hl (a:=a) (by lia) (lim':=3) (by decide) (d:=d) (by lia)
 obtain ⟨s,rfl⟩:∃ s:Fin 3,v=s.val:=⟨⟨v,hv⟩,rfl⟩
 obtain ⟨d',hd'⟩:∃ e,d=e+1:=⟨d - 1,by lia⟩
 have hk:okL (ps.map prC)=true:=okL_le (by rw [List.length_map];lia)
 have hk2:okL (ps.map due)=true:=okL_le (by rw [List.length_map];lia)
 have c0:∀ (ps:List P) (F:Fm) {H},CP (.idx (.var 1885432178) (.con (.int 0))) (.nm 1885432178) [] (ps.map prC) F H (ps.map pc) H:=by
  intro ps
  induction ps with
  |nil=>intro F H;exact b8
  |cons p ps ih=>intro F H;exact dA aX bE (bK (x:=pc p) (aB lkp_eq) aC rfl rfl) (ih _)
 have c1:∀ (ps:List P) (F:Fm) {H},CP (.idx (.var 1885432178) (.con (.int 1))) (.nm 1885432178) [] (ps.map prC) F H (ps.map due) H:=by
  intro ps
  induction ps with
  |nil=>intro F H;exact b8
  |cons p ps ih=>intro F H;exact dA aX bE (bK (x:=due p) (aB lkp_eq) aC rfl rfl) (ih _)
 let F2:Fm:=⟨d,(lpF d dep 3 f).vs++[(j3,.c (.lst (ps.map prC))),(z5,.c (.str (s3 s)))]⟩
 refine ⟨s,F2,aH (F1:=F2) (H1:=TH ns (a+1)) (aG (v:=.c (.str (s3 s))) (bK (a7 rfl (aA aC (aA aC (aA aC aD))) rfl) (aF aC (aA (aB rfl) (aA aC aD)) hdr) rfl (CK s)) aX) (aM (aL (a7 rfl (aA (H1:=TH ns (a+1)) (v:=.c (mC s f ps)) (aF (H2:=TH ns (a+1)) aC (aA (aB rfl) (aA (cK (x:=.lst (ps.map prC)) (aB rfl) ?_ ?_ (c0 ps _)) (aA (aB rfl) aD))) ?_)
  (aA (v:=.c (.tup [.str eI,.str (s3 s),.tup (ps.map due),.tup ((fI f).map tdF)])) (a7 rfl (aA aC (aA (aB rfl) (aA (v:=.c (.tup (ps.map due))) (aF aC (aA (cK (x:=.lst (ps.map prC)) (aB rfl) ?_ ?_ (c1 ps _)) aD) (bZ (cs:=[.lst (ps.map due)]) rfl ?_)) (aA (aB rfl) aD)))) rfl) aD)) rfl)))⟩
 ·exact if_pos hk
 ·rw [List.length_map];show _≤1000000;lia
 ·show CA d _ _ _ _ _
  rw [hd']
  exact dP (ps:=[z5,zU,zF]) (ds:=[.tup []]) rfl rfl rfl rfl
 ·exact if_pos hk
 ·rw [List.length_map];show _≤1000000;lia
 ·exact if_pos hk2
theorem CN:j2 0 2:=by
 intro ns hne hl a ha d hd
 obtain ⟨d,rfl⟩:∃ e,d=e+1:=⟨d - 1,by lia⟩
 have ha':a+10≤90000:=ha
 obtain ⟨f,hf⟩:=k8 hne hl (a:=a) (by lia) (d:=d) (by lia)
 obtain ⟨k,o,F',h⟩:=t6 hne hl (a:=a+1) (by lia) (d:=d) (dep:=2) (by lia) (srt:=0) (by decide) (by decide) (f:=f)
 refine ⟨.leaf k o f,a+3,Nat.le_refl _,by lia,pW (srt:=0) (a1:=a) ?_ hf h⟩
 exact aG (b6 (b:=false) (aK (aB rfl) (aJ aC rfl)) aC) aX
theorem t8 {m dep:Nat} (hdep:dep < 2) (ih:j2 m (dep+1)):j2 (m+1) dep:=by
 intro ns hne hl a ha d hd
 obtain ⟨d,rfl⟩:∃ e,d=e+1:=⟨d - 1,by lia⟩
 have e3:3 ^ (m+1)=3 * 3 ^ m:=by rw [Nat.pow_succ];lia
 have hpos:0 < 3 ^ m:=Nat.pow_pos (by decide)
 rw [e3] at ha ⊢
 obtain ⟨v,hv,hdr⟩:=fG hne hl (a:=a) (by lia) (lim':=5) (by decide) (d:=d) (by lia)
 obtain ⟨f,hf⟩:=k8 hne hl (a:=a+1) (by lia) (d:=d) (by lia)
 have h0:ST f1127.body[0] ⟨d,[(cW,.r 0),(c8,.c (nat dep))]⟩ (TH ns a) .nx ⟨d,[(cW,.r 0),(c8,.c (nat dep)),(i6,.c (nat v))]⟩ (TH ns (a+1)):=by
  refine aG (b6 (b:=true) (aK (aB rfl) (aJ aC ?_)) (aF aC (aA (aB rfl) (aA aC aD)) hdr)) aX
  exact congrArg some (decide_eq_true (by lia))
 by_cases q3:v=3
 ·subst q3
  obtain ⟨w,hw,hdr2⟩:=fG hne hl (a:=a+2) (by lia) (lim':=2) (by decide) (d:=d) (by lia)
  have t3:TS (.cmp (.var i6) [.Eq] [.con (.int 3)]) (lpF d dep 3 f) (TH ns (a+2)) true (TH ns (a+2)):=aK (aB rfl) (aJ aC rfl)
  obtain ⟨p,a3,hp,ha3,hcp⟩:=ih hne hl (a:=a+3) (by lia) (d:=d) (by lia)
  have hw':w=0∨w=1:=by lia
  rcases hw' with rfl |rfl
  ·obtain ⟨s,F',hm⟩:=t7 hne hl (a:=a3) (by lia) (d:=d) (dep:=dep) (by lia) (f:=f) [p] (by simp)
   let F9:Fm:=⟨d,(lpF d dep 3 f).vs++[(j3,.c (.lst (List.map prC [p])))]⟩
   have hm':SS ((match f1127.body[2] with | .ite _ b _=>b |_=>[]).drop 1) F9 (TH ns a3) (.rt (.c (.tup [pc (.one s f p),due (.one s f p)]))) F' (TH ns (a3+1)):=hm
   refine ⟨.one s f p,a3+1,by show 1+dp p≤m+1;lia,by lia,pW (srt:=3) (a1:=a+1) (F':=F') h0 hf (aM (aQ (b:=true) t3 (aH (F1:=F9) (H1:=TH ns a3) ?_ hm')))⟩
   exact nO (x:=.rng 0 1 1) (cs:=[.int 0]) (xs:=[prC p]) (aF aC (aA (v:=.c (.int 1)) (aW aC (aF aC (aA (aB rfl) (aA aC aD)) hdr2) rfl) aD) (bZ (cs:=[.int 1]) rfl rfl)) rfl (by show 1≤1000000;lia) (dA aX bE (aF aC (aA (aB rfl) (aA (v:=.c (nat (dep+1))) (aW (aB rfl) aC rfl) aD)) hcp) b8)
  ·obtain ⟨p2,a4,hp2,ha4,hcp2⟩:=ih hne hl (a:=a3) (by lia) (d:=d) (by lia)
   obtain ⟨s,F',hm⟩:=t7 hne hl (a:=a4) (by lia) (d:=d) (dep:=dep) (by lia) (f:=f) [p,p2] (by simp)
   let F9:Fm:=⟨d,(lpF d dep 3 f).vs++[(j3,.c (.lst (List.map prC [p,p2])))]⟩
   have hm':SS ((match f1127.body[2] with | .ite _ b _=>b |_=>[]).drop 1) F9 (TH ns a4) (.rt (.c (.tup [pc (.two s f p p2),due (.two s f p p2)]))) F' (TH ns (a4+1)):=hm
   refine ⟨.two s f p p2,a4+1,by show 1+max (dp p) (dp p2)≤m+1;lia,by lia,pW (srt:=3) (a1:=a+1) (F':=F') h0 hf (aM (aQ (b:=true) t3 (aH (F1:=F9) (H1:=TH ns a4) ?_ hm')))⟩
   exact nO (x:=.rng 0 2 1) (cs:=[.int 0,.int 1]) (xs:=[prC p,prC p2]) (aF aC (aA (v:=.c (.int 2)) (aW aC (aF aC (aA (aB rfl) (aA aC aD)) hdr2) rfl) aD) (bZ (cs:=[.int 2]) rfl rfl)) rfl (by show 2≤1000000;lia) (dA aX bE (aF aC (aA (aB rfl) (aA (v:=.c (nat (dep+1))) (aW (aB rfl) aC rfl) aD)) hcp) (dA aX bE (aF aC (aA (aB rfl) (aA (v:=.c (nat (dep+1))) (aW (aB rfl) aC rfl) aD)) hcp2) b8))
 ·by_cases q4:v=4
  ·subst q4
   obtain ⟨p,a3,hp,ha3,hcp⟩:=ih hne hl (a:=a+2) (by lia) (d:=d) (by lia)
   obtain ⟨d',hd'⟩:∃ e,d=e+1:=⟨d - 1,by lia⟩
   have hfl:=b5 f
   have hpf:=xX p
   let F3:Fm:=⟨d,(lpF d dep 4 f).vs++[(zA0,.c (pc p)),(k7,.c (due p))]⟩
   let F4:Fm:=⟨d,(lpF d dep 4 f).vs++[(zA0,.c (pc p)),(k7,.c (due p)),(1836020325,.c (.tup ((pF p).map tdF)))]⟩
   refine ⟨.ltr f p,a3,by show 1+dp p≤m+1;lia,by lia,pW (srt:=4) (a1:=a+1) (F':=F4) h0 hf (aH (F1:=lpF d dep 4 f) (H1:=TH ns (a+2)) (aQ (b:=false) (aK (aB rfl) (aJ aC rfl)) a5) (aM (aQ (b:=true) (aK (aB rfl) (aJ aC rfl))
    (aH (F1:=F3) (H1:=TH ns a3) (aG (v:=.c (.tup [pc p,due p])) (aF aC (aA (aB rfl) (aA (v:=.c (nat (dep+1))) (aW (aB rfl) aC rfl) aD)) hcp) tp2)
    (aH (F1:=F4) (H1:=TH ns a3) (aG (v:=.c (.tup ((pF p).map tdF))) (t4 rfl) aX)
    (aM (aL (a7 rfl (aA (H1:=TH ns a3) (v:=.c (pc (.ltr f p))) (aF (H2:=TH ns a3) aC (aA (aB rfl) (aA (aB rfl) aD)) ?_)
     (aA (v:=.c (due (.ltr f p))) (a7 rfl (aA aC (aA (v:=.c (trX p [])) (aF aC (aA (aB rfl) aD) (pS (by show 1≤d;lia))) (aA (v:=.c (.tup ((fI f++pF p).map tdF))) (aW (aB rfl) (aB rfl) ?_) aD))) rfl) aD)) rfl))))))))⟩
   ·show CA d _ _ _ _ _
    rw [hd']
    exact dP (ps:=[zL,zF]) (ds:=[.tup []]) rfl rfl rfl rfl
   ·show rK _ .Add (.c (.tup ((fI f).map tdF))) (.c (.tup ((pF p).map tdF)))=_
    rw [KD (by rw [List.length_map,List.length_map];lia),List.map_append]
  ·obtain ⟨k,o,F',h⟩:=t6 hne hl (a:=a+2) (by lia) (d:=d) (dep:=dep) (by lia) (srt:=v) q3 q4 (f:=f)
   exact ⟨.leaf k o f,a+4,Nat.zero_le _,by lia,pW (srt:=v) (a1:=a+1) h0 hf h⟩
theorem xY:j2 2 0:=t8 (by decide) (t8 (by decide) CN)
theorem bF {n:Nat} {a:List C} (h:ceqs (ceq n) a a=true):ceq (n+1) (.tup a) (.tup a)=true:=h
theorem aI {f:C→C→Bool} {c:C} {l:List C} (h1:f c c=true) (h2:ceqs f l l=true):ceqs f (c::l) (c::l)=true:=by
 refine (?_:(f c c && ceqs f l l)=true)
 rw [h1,h2];rfl
theorem bQ {n:Nat} {s:List Nat}:ceq (n+1) (.str s) (.str s)=true:=o9
theorem oA {n:Nat} {s:List Nat}:ceq (n+1) (.byt s) (.byt s)=true:=o9
theorem GX {n:Nat} (i:Fi):ceq (n+2) (tdF i) (tdF i)=true:=bF (aI bQ (aI oA rfl))
theorem gJ {n:Nat}:∀ is:List Fi,ceqs (ceq (n+2)) (is.map tdF) (is.map tdF)=true
 | []=>rfl
 |i::is=>aI (GX i) (gJ is)
theorem GY {n:Nat}:∀ k:Fin 4,ceq (n+4) (kdT k) (kdT k)=true:=
 fin4 (bF (aI bQ (aI bQ (aI (bF (aI (bF (aI bQ (aI bQ rfl))) rfl)) rfl))))
  (bF (aI bQ (aI bQ (aI (bF rfl) rfl))))
  (bF (aI bQ (aI bQ (aI (bF (aI (bF (aI bQ (aI bQ rfl))) rfl)) rfl))))
  (bF (aI bQ (aI bQ (aI (bF rfl) rfl))))
theorem i7:∀ (p:P) (n:Nat) (is:List Fi),ceq (n+5+2 * dp p) (trX p (is.map tdF)) (trX p (is.map tdF))=true
 | .leaf k o f,n,is=>bF (n:=n+4) (aI bQ (aI (GY k) (aI oA (aI (bF (n:=n+3) (gJ (n:=n+1) is)) rfl))))
 | .one s f p,n,is=>by
  have e:n+5+2 * dp (.one s f p)=(n+5+2 * dp p)+1+1:=by show n+5+2 * (1+dp p)=_;lia
  have e2:n+5+2 * dp p=(n+3+2 * dp p)+2:=by lia
  rw [e]
  exact bF (aI bQ (aI bQ (aI (bF (aI (i7 p n (pF p)) rfl)) (aI (bF (by rw [e2];exact gJ is)) rfl))))
 | .two s f p q,n,is=>by
  have e:n+5+2 * dp (.two s f p q)=(n+5+2 * max (dp p) (dp q))+1+1:=by show n+5+2 * (1+max (dp p) (dp q))=_;lia
  have e2:n+5+2 * max (dp p) (dp q)=(n+3+2 * max (dp p) (dp q))+2:=by lia
  have h1:=i7 p (n+2 * (max (dp p) (dp q) - dp p)) (pF p)
  have h2:=i7 q (n+2 * (max (dp p) (dp q) - dp q)) (pF q)
  rw [show n+2 * (max (dp p) (dp q) - dp p)+5+2 * dp p=n+5+2 * max (dp p) (dp q) by lia] at h1
  rw [show n+2 * (max (dp p) (dp q) - dp q)+5+2 * dp q=n+5+2 * max (dp p) (dp q) by lia] at h2
  rw [e]
  exact bF (aI bQ (aI bQ (aI (bF (aI h1 (aI h2 rfl))) (aI (bF (by rw [e2];exact gJ is)) rfl))))
 | .ltr f p,n,is=>by
  have e:n+5+2 * dp (.ltr f p)=(n+1+5+2 * dp p)+1:=by show n+5+2 * (1+dp p)=_;lia
  have e2:n+1+5+2 * dp p=(n+3+2 * dp p)+2+1:=by lia
  rw [e]
  exact bF (aI (by rw [e2];exact bQ) (aI (i7 p (n+1) []) (aI (by rw [e2];exact bF (gJ _)) rfl)))
theorem t9 {H:List O} {l:List C} (h:ceq 51 (.tup l) (.tup l)=true):jS H .NotEq (.c (.tup l)) (.c (.tup l))=some false:=by
 have h':ceqs (ceq 50) l l=true:=h
 refine congrArg (Option.map (!·)) (?_:cond (ceqs (ceq 50) l l) (some true) none=some true)
 rw [h'];rfl
theorem CO (p:P) (l:List C):∃ m,trX p l= .tup m:=by cases p <;> exact ⟨_,rfl⟩
theorem xZ {H:List O} {p:P} (hp:dp p≤2) (is:List Fi):jS H .NotEq (.c (trX p (is.map tdF))) (.c (trX p (is.map tdF)))=some false:=by
 have h:=i7 p (46 - 2 * dp p) is
 rw [show 46 - 2 * dp p+5+2 * dp p=51 by lia] at h
 obtain ⟨m,e⟩:=CO p (is.map tdF)
 rw [e] at h ⊢
 exact t9 h
theorem CQ {H:List O} {p:P} (hp:dp p≤2) (is:List Fi):jS H .NotEq (.c (.tup [.str jL,trX p [],.tup (is.map tdF)])) (.c (.tup [.str jL,trX p [],.tup (is.map tdF)]))=some false:=by
 have h:=i7 p (45 - 2 * dp p) []
 rw [show 45 - 2 * dp p+5+2 * dp p=50 by lia] at h
 exact t9 (bF (aI bQ (aI h (aI (bF (gJ is)) rfl))))
theorem pX {n:Nat}:∀ l:List (List Nat),ceqs (ceq (n+1)) (l.map C.byt) (l.map C.byt)=true
 | []=>rfl
 |x::l=>aI oA (pX l)
theorem CS {H:List O} {l:List (List Nat)}:jS H .Eq (.c (.lst (l.map C.byt))) (.c (.lst (l.map C.byt)))=some true:=by
 refine (?_:cond (ceqs (ceq 50) (l.map C.byt) (l.map C.byt)) (some true) _=some true)
 rw [pX l];rfl
theorem GZ (q:P) (o:Nat) (ex:List Fi):∃ b fs k enc kids inner,pt q o ex= .ins 789 (bC o b (o+(txt (lnX ex q)).length) fs k enc kids inner):=by
 cases q <;> exact ⟨_,_,_,_,_,_,rfl⟩
theorem pY {D:List Nat} (hz:D.length≤400000) {k:Nat} {H:List O}:∀ (ps:List P) (pre post:List Nat) (F:Fm),D=pre++txt (jl k (ps.map (lnX [])))++post→lk F.vs aY=some (.c (.byt D))→
  CP (.sli (.var aY) (.atr (.var 7039332) zN) (.atr (.var 7039332) zI)) (.nm 7039332) [] (dS pre.length ps) F H (ps.map fun q=>C.byt (txt (lnX [] q))) H
 | [],pre,post,F,hD,k1=>b8
 |p::ps,pre,post,F,hD,k1=>by
  have hm:(aN k).length=9:=rfl
  rw [List.map_cons] at hD
  rw [r4 f0] at hD
  have e1:(pre++aN k++[13,10]).length=pre.length+11:=by simp [hm]
  have e2:(pre++aN k++[13,10]++txt (lnX [] p)++[13,10]).length=pre.length+11+(txt (lnX [] p)).length+2:=by simp [hm];lia
  obtain ⟨b,fs,kk,enc,kids,inner,e⟩:=GZ p (pre.length+11) []
  have ih:=pY hz (H:=H) (k:=k) ps (pre++aN k++[13,10]++txt (lnX [] p)++[13,10]) post ⟨F.d,put 7039332 (.c (pt p (pre.length+11) [])) F.vs⟩ (by rw [hD];simp) (aE rfl k1)
  rw [e2] at ih
  refine dA aX bE (dH (ca:=nat (pre.length+11)) (cb:=nat (pre.length+11+(txt (lnX [] p)).length)) (x:=.byt (txt (lnX [] p))) (aB (aE rfl k1)) (aZ (c:=789) (aB lkp_eq) (by rw [e];rfl) rfl rfl) (aZ (c:=789) (aB lkp_eq) (by rw [e];rfl) rfl rfl) rfl ?_) ih
  exact gD (pre:=pre++aN k++[13,10]) (x:=txt (lnX [] p)) (post:=13::10::txt (jl k (ps.map (lnX [])))++post) (by lia) (by rw [hD];simp) (by rw [e1]) (by rw [e1])
theorem pZ {H:List O}:∀ (ps:List P) (F:Fm),23≤F.d→(∀ q∈ps,dp q≤2)→CP (.cal (.con (.obj 1063)) [.var 7302757]) (.nm 7302757) [] (ps.map pc) F H (ps.map fun q=>C.byt (txt (lnX [] q))) H
 | [],F,hd,h=>b8
 |p::ps,F,hd,h=>dA aX bE (aF aC (aA (aB lkp_eq) aD) (pP (h p (by simp)) hd)) (pZ ps ⟨F.d,put 7302757 (.c (pc p)) F.vs⟩ hd fun q hq=>h q (List.mem_cons_of_mem _ hq))
theorem qA {p:P} {s f:Fin 3} {ps:List P} {k:Nat} {ex:List Fi} (hpc:pc p=mC s f ps) (hbd:bdP p=jl k (ps.map (lnX []))) {kk:C} (hpt:pt p 0 ex= .ins 789 (bC 0 ((hb (ex++aT p)).length+2) ((txt (lnX ex p)).length) (ex++aT p) kk s7 (dS ((hb (ex++aT p)).length+2) ps) .none))
  (hps:ps.length≤2) (hdp:∀ q∈ps,dp q≤2) (hz:(txt (lnX ex p)).length≤400000) {F:Fm} {H:List O} (hd:23≤F.d) (k1:lk F.vs aY=some (.c (.byt (txt (lnX ex p))))) (k2:lk F.vs cV=some (.c (pt p 0 ex))) (k3:lk F.vs gG=some (.c (pc p))):
  SS (f1137.body.drop 8) F H (.rt (.c (.bool true))) F H:=by
 have hpre:(hb (ex++aT p)++[13,10]).length=(hb (ex++aT p)).length+2:=by rw [List.length_append];rfl
 have hl1:(dS ((hb (ex++aT p)).length+2) ps).length=ps.length:=by
  have:∀ (ps:List P) o,(dS o ps).length=ps.length:=by
   intro ps
   induction ps with
   |nil=>intro o;rfl
   |cons l ps ih=>intro o;simp [dS,ih]
  exact this _ _
 have ok1:okL (dS ((hb (ex++aT p)).length+2) ps)=true:=okL_le (by lia)
 have ok2:okL (ps.map pc)=true:=okL_le (by rw [List.length_map];lia)
 rw [hpt] at k2
 rw [hpc] at k3
 have cc:=pY hz (k:=k) (H:=H) ps (hb (ex++aT p)++[13,10]) [] ⟨F.d,d6 (dot0::eE (.nm 7039332)) F.vs⟩ (by rw [bY,hbd];simp) ((iC rfl _).trans k1)
 rw [hpre] at cc
 have hm:(ps.map fun q=>C.byt (txt (lnX [] q)))=(ps.map fun q=>txt (lnX [] q)).map C.byt:=by rw [List.map_map];rfl
 refine aM (aQ (b:=true) (cE (v:=.c (.bool true)) rfl (aF aC (aA (aB k3) (aA aC aD)) (a9 (cs:=[mC s f ps,.obj 929]) rfl rfl)) rfl)
  (aH (F1:=F) (H1:=H) (aQ (b:=false) (aK (v:=.c (nat ps.length)) (aF aC (aA (v:=.c (.lst (dS ((hb (ex++aT p)).length+2) ps))) (aZ (c:=789) (aB k2) rfl rfl rfl) aD) (a9 (cs:=[.lst (dS ((hb (ex++aT p)).length+2) ps)]) rfl ?_)) (aJ (w:=.c (nat ps.length)) (aF aC (aA (v:=.c (.lst (ps.map pc))) (aZ (c:=929) (aB k3) rfl rfl rfl) aD) (a9 (cs:=[.lst (ps.map pc)]) rfl ?_)) ?_)) a5)
  (aM (aL (mG (v:=.c (.lst ((ps.map fun q=>txt (lnX [] q)).map C.byt))) (cK (x:=.lst (dS ((hb (ex++aT p)).length+2) ps)) (aZ (c:=789) (aB k2) rfl rfl rfl) ?_ ?_ (by rw [← hm];exact cc)) (aJ (w:=.c (.lst ((ps.map fun q=>txt (lnX [] q)).map C.byt))) (cK (x:=.lst (ps.map pc)) (aZ (c:=929) (aB k3) rfl rfl rfl) ?_ ?_ (by rw [← hm];exact pZ ps _ hd hdp)) CS))))))
 ·exact (if_pos ok1).trans (by rw [hl1])
 ·exact (if_pos ok2).trans (by rw [List.length_map])
 ·show some (!((ps.length:Int) == (ps.length:Int)))=some false
  simp
 ·exact if_pos ok1
 ·show (dS _ ps).length≤1000000;lia
 ·exact if_pos ok2
 ·rw [List.length_map];show _≤1000000;lia
theorem G0 {p:P} (hp:dp p≤2) {ex:List Fi} (hz:(txt (lnX ex p)).length≤400000) {F:Fm} {H:List O} (hd:23≤F.d) (k1:lk F.vs aY=some (.c (.byt (txt (lnX ex p))))) (k2:lk F.vs cV=some (.c (pt p 0 ex))) (k3:lk F.vs gG=some (.c (pc p))):
  SS (f1137.body.drop 8) F H (.rt (.c (.bool true))) F H:=by
 cases p with
 |leaf k o f=>exact aH (F1:=F) (H1:=H) (aQ (b:=false) (cE (v:=.c (.bool false)) rfl (aF aC (aA (aB k3) (aA aC aD)) (a9 (cs:=[pc (.leaf k o f),.obj 929]) rfl rfl)) rfl) a5) (aM (aL aC))
 |one s f p=>
  have hp':1+dp p≤2:=hp
  exact qA (p:=.one s f p) (s:=s) (f:=f) (ps:=[p]) (k:=(bnd [lnX [] p]).val) (kk:=cH s (bnd [lnX [] p])) rfl rfl (by simp only [pt,dS,Nat.zero_add]) (by simp) (by simp;lia) hz hd k1 k2 k3
 |two s f p q=>
  have hp':1+max (dp p) (dp q)≤2:=hp
  exact qA (p:=.two s f p q) (s:=s) (f:=f) (ps:=[p,q]) (k:=(bnd [lnX [] p,lnX [] q]).val) (kk:=cH s (bnd [lnX [] p,lnX [] q])) rfl rfl (by simp only [pt,dS,Nat.zero_add]) (by simp) (by simp;lia) hz hd k1 k2 k3
 |ltr f p=>exact aH (F1:=F) (H1:=H) (aQ (b:=false) (cE (v:=.c (.bool false)) rfl (aF aC (aA (aB k3) (aA aC aD)) (a9 (cs:=[pc (.ltr f p),.obj 929]) rfl rfl)) rfl) a5) (aM (aL aC))
theorem x0 {e1 e2:X} {F:Fm} {H H1:List O} {c:C} {l:List C} (hz:l.length≤1000000) (h1:EX e1 F H (.c (.lst (c::l))) H1) (hl:(c::l).length≤1000000):EX (.bop false [e1,e2]) F H (.c (.lst (c::l))) H1:=
 xI (h1.m1 fun _ h1 q k=>h1 _ (ooI (a:=true) (by
  refine (?_:cond (Nat.ble (c::l).length lim) _ _=_)
  rw [show Nat.ble (c::l).length lim=true from Nat.ble_eq_true_of_le hl];rfl) k))
theorem CT {e1 e2:X} {F:Fm} {H H1 H2:List O} {v:V} (h1:EX e1 F H (.c (.lst [])) H1) (h2:EX e2 F H1 v H2):EX (.bop false [e1,e2]) F H v H2:=xI (h1.m2 h2 fun _ h1 h2 q k=>h1 _ (h2 q k))
noncomputable abbrev d8:Nat:=126870958469236
noncomputable abbrev x2:Nat:=zA6
theorem x3 {p:P} (hp:dp p≤2) {b:Bool} {ns ns':List Int} {a:Nat}:∃ F',SS (f1137.body.drop 3) ⟨59,[(d8,.c (.lst (ns.map C.int))),(cW,.r 0),(x2,.c (.bool b)),(gG,.c (pc p)),(k7,.c (due p))]⟩ (TH ns' a) (.rt (.c (.bool true))) F' (TH ns' a):=by
 let ex:List Fi:=if b=true then [.fr,.mv] else []
 have hex:n6 ex:=by
  cases b with
  |false=>
   intro i hi
   have hi':i∈([]:List Fi):=hi
   cases hi'
  |true=>
   intro i hi
   have hi':i∈[Fi.fr,Fi.mv]:=hi
   simp only [List.mem_cons,List.not_mem_nil,or_false] at hi'
   rcases hi' with rfl |rfl <;> exact ⟨rfl,rfl⟩
 have hxl:ex.length≤3:=by cases b <;> decide
 have hz:=i4 (p:=p) hp hxl
 let D:=txt (lnX ex p)
 let H:=TH ns' a
 let vs0:List (Nat × V):=[(d8,.c (.lst (ns.map C.int))),(cW,.r 0),(x2,.c (.bool b)),(gG,.c (pc p)),(k7,.c (due p))]
 let F0:Fm:=⟨59,vs0⟩
 let F1:Fm:=⟨59,vs0++[(aY,.c (.byt D))]⟩
 let F2:Fm:=⟨59,vs0++[(aY,.c (.byt D)),(cV,.c (pt p 0 ex))]⟩
 have s3:ST f1137.body[3] F0 H .nx F0 H:=aQ (b:=false) (aK (iI p (aB rfl) (by show 12+dp p≤59;lia)) (aJ (aB rfl) (xZ hp (pF p)))) a5
 have s4:ST f1137.body[4] F0 H .nx F1 H:=by
  refine aG (v:=.c (.byt D)) (b6 (b:=b) (cE (v:=.c (.bool b)) rfl (aB rfl) rfl) ?_) aX
  cases b with
  |true=>
   refine aF aC (aA (aB rfl) (aA (v:=.c (.tup [fC .fr])) (a7 rfl (aA (v:=.c (fC .fr)) (aF aC (aA aC (aA aC aD)) ?_) aD) rfl) aD)) (rY hp (by show 25≤59;decide))
   show CA (58+1) _ _ _ _ _
   exact dP (ps:=[zK,zAB]) (ds:=[]) rfl rfl rfl rfl
  |false=>exact aF aC (aA (aB rfl) aD) (pP hp (by show 23≤59;decide))
 have s5:ST f1137.body[5] F1 H .nx F2 H:=aG (v:=.c (pt p 0 ex)) (aF aC (aA (aB rfl) aD) (n8 hp hex hxl (by show 18≤59;decide))) aX
 have s6:ST f1137.body[6] F2 H .nx F2 H:=aQ (b:=false) (wX (b:=true) (cE (v:=.c (.bool true)) rfl (aF aC (aA (aB rfl) aD) (xW (nU p ex) f0 (by lia) (by show 1≤59;decide))) rfl)) a5
 have ht:hR 18 p:=by
  intro D pre post ex d H h1 h2 h3 h4
  exact CG p h1 h2 h3 (by lia)
 obtain ⟨F3,s7,k0,k1,k2,k3⟩:∃ F3,ST f1137.body[7] F2 H .nx F3 H∧F3.d=59∧lk F3.vs aY=some (.c (.byt D))∧lk F3.vs cV=some (.c (pt p 0 ex))∧lk F3.vs gG=some (.c (pc p)):=by
  cases b with
  |true=>
   let F3:Fm:=⟨59,vs0++[(aY,.c (.byt D)),(cV,.c (pt p 0 ex)),(1836020325,.c (.tup ((pF p).map tdF)))]⟩
   refine ⟨F3,aQ (b:=true) (cE (v:=.c (.bool true)) rfl (aB rfl) rfl) (aH (F1:=F3) (H1:=H) (aG (v:=.c (.tup ((pF p).map tdF))) (t4 rfl) aX) (aH (F1:=F3) (H1:=H) (aQ (b:=false) (H1:=H) ?_ a5) a5)),rfl,rfl,rfl,rfl⟩
   have lt:=pT (p:=p) ht (D:=D) (pre:=[]) (post:=[]) (ex:=ex) (d:=59) (H:=H) (by show (txt (lnX ex p)).length≤400000;lia) (by simp [D]) hxl (by decide) (by decide)
   have e1:((ex++aT p).filter fR)= .fr::pF p:=by
    show (([Fi.fr,Fi.mv]++aT p).filter fR)=_
    rw [List.filter_append,j1];rfl
   rw [e1] at lt
   have hpf:=xX p
   refine aK (aF aC (aA (aB rfl) (aA (aB rfl) aD)) lt) (aJ (w:=.c (.tup [.str jL,trX p [],.tup ((Fi.fr::pF p).map tdF)])) (a7 rfl (aA aC (aA (v:=.c (trX p [])) (aF aC (aA (aB rfl) aD) (pS (by show 1≤59;decide))) (aA (v:=.c (.tup ((Fi.fr::pF p).map tdF))) (aW (v:=.c (.tup [tdF .fr])) (a7 rfl (aA (v:=.c (tdF .fr)) (a7 rfl (aA aC (aA aC aD)) rfl) aD) rfl) (aB rfl) ?_) aD))) rfl) (CQ hp _))
   exact KD (by rw [List.length_map];show 1+_≤1000000;lia)
  |false=>
   refine ⟨F2,aQ (b:=false) (cE (v:=.c (.bool false)) rfl (aB rfl) rfl) (aH (F1:=F2) (H1:=H) (aQ (b:=false) (H1:=H) ?_ a5) a5),rfl,rfl,rfl,rfl⟩
   have tr:=ht (D:=D) (pre:=[]) (post:=[]) (ex:=ex) (d:=59) (H:=H) (by show (txt (lnX ex p)).length≤400000;lia) (by simp [D]) hxl (by decide)
   have e1:((ex++aT p).filter fR)=pF p:=j1 p
   rw [e1] at tr
   exact aK (aF aC (aA (aB rfl) (aA (aB rfl) aD)) tr) (aJ (aB rfl) (xZ hp (pF p)))
 exact ⟨F3,aH s3 (aH s4 (aH s5 (aH s6 (aH s7 (G0 hp (by lia) (by lia) k1 k2 k3)))))⟩
theorem plain_law {ns:List Int} (hn:ns.length≤63):CA 60 (.c (.obj 1137)) [.c (.lst (ns.map C.int))] [] (.c (.bool true)) []:=by
 have okn:okL (ns.map C.int)=true:=okL_le (by rw [List.length_map];lia)
 obtain ⟨ns',hne,hl',hcells⟩:∃ ns':List Int,ns'≠[]∧ns'.length≤1000∧EX (.bop false [.cal (.con (.typ .list)) [.sli (.var d8) (.con .none) (.con (.int 40))],.lst [.con (.int 0)]]) ⟨59,[(d8,.c (.lst (ns.map C.int)))]⟩ [] (.c (.lst (ns'.map C.int))) []:=by
  let t:=ns.take (min 40 ns.length)
  have hcut:j5 (.lst (ns.map C.int)) .none (.int 40)=some (.lst (t.map C.int)):=by
   have e:cut (ns.map C.int) .none (.int 40)=some (t.map C.int):=by
    have e1:clip (ns.map C.int).length 40=min 40 ns.length:=by
     rw [List.length_map];rfl
    refine (?_:some (((ns.map C.int).drop 0).take (clip (ns.map C.int).length 40 - 0))=_)
    rw [e1]
    exact congrArg some List.map_take.symm
   exact (if_pos okn).trans (by rw [e];rfl)
  have htl:t.length≤63:=by
   show (ns.take (min 40 ns.length)).length≤63
   rw [List.length_take];lia
  have okt:okL (t.map C.int)=true:=okL_le (by rw [List.length_map];lia)
  have e1:EX (.cal (.con (.typ .list)) [.sli (.var d8) (.con .none) (.con (.int 40))]) ⟨59,[(d8,.c (.lst (ns.map C.int)))]⟩ [] (.c (.lst (t.map C.int))) []:=by
   refine aF aC (aA (dH (aB rfl) aC aC rfl hcut) aD) (bZ (cs:=[.lst (t.map C.int)]) rfl ?_)
   exact if_pos okt
  cases ht:t with
  |nil=>
   rw [ht] at e1
   exact ⟨[0],by simp,by decide,CT e1 (eU rfl (aA aC aD) rfl)⟩
  |cons c l=>
   rw [ht] at e1 htl
   exact ⟨c::l,by simp,by lia,x0 (by rw [List.length_map];simp at htl;lia) e1 (by rw [← List.map_cons,List.length_map];lia)⟩
 obtain ⟨v,hv,hdr⟩:=fG hne hl' (a:=0) (by decide) (lim':=2) (by decide) (d:=59) (by decide)
 obtain ⟨p,a',hp,_,hcp⟩:=xY hne hl' (a:=1) (by decide) (d:=59) (by decide)
 obtain ⟨F',hr⟩:=x3 hp (b:=(v:Int) == 1) (ns:=ns) (ns':=ns') (a:=a')
 refine aP (f:=f1137) (F1:=F') (H1:=TH ns' a') rfl rfl rfl (aH (F1:=⟨59,[(d8,.c (.lst (ns.map C.int))),(cW,.r 0)]⟩) (H1:=TH ns' 0) (e6 (H1:=[]) (cs:=[.lst (ns'.map C.int),.int 0]) rfl (aA hcells (aA aC aD)) rfl)
  (aH (F1:=⟨59,[(d8,.c (.lst (ns.map C.int))),(cW,.r 0),(x2,.c (.bool ((v:Int) == 1)))]⟩) (H1:=TH ns' 1) (aG (v:=.c (.bool ((v:Int) == 1))) (mG (v:=.c (nat v)) (aF aC (aA (aB rfl) (aA aC aD)) hdr) (aJ aC rfl)) aX)
  (aH (H1:=TH ns' a') (aG (v:=.c (.tup [pc p,due p])) (aF aC (aA (aB rfl) (aA aC aD)) hcp) tp2) hr)))
end Mine.Pl
end
section
open PySem
namespace Mine
theorem i8 {M:Model} {Γ:Ctx} {p:Pos} {t:Sem PySem.Fin} {fs:List Frame} {s s':Shared} {e:End} (h:Runs M Γ p t fs s e s'):s.heap.objs.size≤s'.heap.objs.size:=by
 induction h <;> (try simp only [Shared.setGen,Heap.size_update,Heap.size_push] at *) <;> lia
theorem oC {M:Model} {Γ:Ctx} {p:Pos} {s s':Shared} {r:Result} (h:Returns M Γ p s r s'):s.heap.objs.size≤s'.heap.objs.size:=i8 h
theorem r5 {M:Model} {Γ:Ctx} {p:Pos} {g:Nat} {r:Resume} {s s':Shared} {res:GenResult} (h:Wakes M Γ p g r s res s'):s.heap.objs.size≤s'.heap.objs.size:=by
 unfold Wakes at h
 split at h
 ·exact h.elim
 ·split at h
  ·obtain ⟨e₁,s₁,hr,_,_,rfl⟩:=h;exact (i8 hr:(s.setGen g .running).heap.objs.size≤s₁.heap.objs.size)
  ·rw [h.2];exact Nat.le_refl _
  ·rw [h.2];exact Nat.le_refl _
 ·obtain ⟨e₁,s₁,hr,_,_,rfl⟩:=h;exact (i8 hr:(s.setGen g .running).heap.objs.size≤s₁.heap.objs.size)
 ·rw [h.2];exact Nat.le_refl _
 ·rw [h.2];exact Nat.le_refl _
theorem CU {α:Type} (M:Model) (Γ:Ctx) (n:Nat) (t:Sem α):∀ (Q:α→Pos→Shared→Prop) (E:Value→Pos→Shared→Prop) (p:Pos) (s:Shared),n≤s.heap.objs.size→Sem.wp M Γ t Q E p s→
  Sem.wp M Γ t (fun a p' s'=>n≤s'.heap.objs.size∧Q a p' s') (fun e p' s'=>n≤s'.heap.objs.size∧E e p' s') p s:=by
 induction t with
 |pure a=>intro Q E p s hn h;exact ⟨hn,h⟩
 |raise e=>intro Q E p s hn h;exact ⟨hn,h⟩
 |unsupported _=>intro Q E p s _ h;exact h
 |finish _=>intro Q E p s _ h;exact h
 |rule _ k ih=>intro Q E p s hn h;exact ih () Q E p s hn h
 |«at» p' k ih=>intro Q E p s hn h;exact ih () Q E p' s hn h
 |load a _ k ih=>intro Q E p s hn h;obtain ⟨o,ho,h⟩:=h;exact ⟨o,ho,ih o Q E p s hn h⟩
 |update a _ f k ih=>intro Q E p s hn h;exact ⟨h.1,ih () Q E p _ (by rw [Heap.size_update];exact hn) h.2⟩
 |loadIfAlive a k ih=>intro Q E p s hn h;exact ih _ Q E p s hn h
 |point _ k ih=>intro Q E p s hn h;exact ih () Q E p s hn h
 |register _ _=>intro Q E p s _ h;exact h
 |alloc o k ih=>intro Q E p s hn h;exact ih _ Q E p _ (by rw [Heap.size_push];exact Nat.le_succ_of_le hn) h
 |fresh k ih=>intro Q E p s hn h;exact ih _ Q E p _ hn h
 |ask k ih=>intro Q E p s hn h;exact ih _ Q E p s hn h
 |choose src m k ih=>intro Q E p s hn h;exact ⟨h.1,ih _ Q E p _ hn h.2⟩
 |os q _ k ih=>intro Q E p s hn h;exact ih _ Q E p _ hn h
 |call c hd _ _ k ih=>intro Q E p s hn h;obtain ⟨r,s',hr,h⟩:=h;exact ⟨r,s',hr,ih r Q E p s' (Nat.le_trans hn (oC hr)) h⟩
 |handled own k ih=>intro Q E p s hn h;exact ih _ Q E p s hn h
 |genState g k ih=>intro Q E p s hn h;obtain ⟨st,hs,h⟩:=h;exact ⟨st,hs,ih _ Q E p s hn h⟩
 |newGen c k ih=>intro Q E p s hn h;exact ih _ Q E p _ hn h
 |resume g r _ k ih=>intro Q E p s hn h;obtain ⟨res,s',hw,h⟩:=h;exact ⟨res,s',hw,ih res Q E p s' (Nat.le_trans hn (r5 hw)) h⟩
 |yield _ _ _ _=>intro Q E p s _ h;exact h
 |stack k ih=>intro Q E p s hn h;exact ih _ Q E p s hn h
 |fork _ _=>intro Q E p s _ h;exact h
 |thread k ih=>intro Q E p s hn h;exact ih _ Q E p s hn h
 |await _ _ _ _ _=>intro Q E p s _ h;exact h
section
variable {α:Type} {M:Model} {A:Around} {s:Shared}
theorem mA {t:Sem α} {Q:α→Shared→Prop} {E:Value→Shared→Prop} {n:Nat} (hn:n≤s.heap.objs.size) (h:wpAny M A t Q E s):
  wpAny M A t (fun a s'=>n≤s'.heap.objs.size∧Q a s') (fun e s'=>n≤s'.heap.objs.size∧E e s') s:=
 fun Γ p hΓ=>CU M Γ n t _ _ p s hn (h Γ p hΓ)
theorem aV {t:Sem α} {Q:α→Shared→Prop} {E:Value→Shared→Prop} (h:wpAny M A t (fun a s'=>s.heap.objs.size≤s'.heap.objs.size→Q a s') E s):wpAny M A t Q E s:=
 wpAny_mono (mA (Nat.le_refl _) h) (fun _ _ x=>x.2 x.1) (fun _ _ x=>x.2)
end
end Mine
end
section
open PySem PySem.W PySem.Calls PyProof.Rows
namespace Mine
set_option backward.match.sparseCases false
theorem cls1 {o:Obj} {t:Value} (h:(o.cls,o.dict)=(t,none)):o.cls=t:=(Prod.mk.inj h).1
noncomputable abbrev Fz:=Addr→Obj→Prop
noncomputable def Bt.nm:Bt→String
 | .len=>"len" | .min=>"min" | .max=>"max" | .sorted=>"sorted" | .isinstance=>"isinstance" | .ord=>"ord" | .chr=>"chr"
noncomputable def Ty.nm:Ty→String
 | .range=>"range" | .bytes=>"bytes" | .list=>"list" | .tuple=>"tuple" | .dict=>"dict" | .str=>"str"
noncomputable def Bm.id:Bm→String
 | .bfind=>"bytes.find" | .brstrip=>"bytes.rstrip" | .bstrip=>"bytes.strip" | .bsplit=>"bytes.split" | .bjoin=>"bytes.join" | .sjoin=>"str.join" | .sfind=>"str.find" | .dget=>"dict.get"
 | .lappend=>"list.append" | .lextend=>"list.extend"
noncomputable def dO (es:Array DictEntry) (n:Nat):Obj:=⟨.type "dict",none,.dict es n,#[]⟩
inductive SeqAt (P:Fz) (t:String) (v:Value) (k:List Value→Prop):Prop
 |mk (a:Addr) (o:Obj) (ws:Array Value) (n:Nat) (e:v= .ref a) (p:P a o) (c:(o.cls,o.dict)=(.type t,none)) (d:o.data= .seq ws n) (r:k ws.toList)
inductive DctAt (P:Fz) (v:Value) (k:List DictEntry→Prop):Prop
 |mk (a:Addr) (es:Array DictEntry) (n:Nat) (e:v= .ref a) (p:P a (dO es n)) (ne:a≠1) (r:k es.toList)
inductive InsAt (P:Fz) (c:Nat) (v:Value) (k:List DictEntry→Prop):Prop
 |mk (x d:Addr) (sl:Array (Option Value)) (es:Array DictEntry) (n:Nat) (e:v= .ref x) (p:P x ⟨.ref c,some d,.plain,sl⟩) (q:P d (dO es n)) (r:k es.toList)
inductive StrAt (v:Value) (s:List Nat):Prop
 |mk (x:Str) (t:Tok) (e:v= .str x t) (m:x.cps.toList=s)
inductive BytAt (v:Value) (l:List Nat):Prop
 |mk (b:Array UInt8) (t:Tok) (e:v= .bytes b t) (m:b.toList.map UInt8.toNat=l)
inductive RngAt (P:Fz) (v:Value) (a b c:Int):Prop
 |mk (r:Addr) (ta tb tc:Tok) (e:v= .ref r) (p:P r ⟨.type "range",none,.fields #[.int a ta,.int b tb,.int c tc],#[]⟩) (q:Builtin.Range.small a b c=true)
inductive ConsAt (ws:List Value) (p:Value→Prop) (q:List Value→Prop):Prop
 |mk (w:Value) (r:List Value) (e:ws=w::r) (x:p w) (y:q r)
inductive ConsD (W:Params) (es:List DictEntry) (k:List Nat) (p:Value→Prop) (q:List DictEntry→Prop):Prop
 |mk (x:Str) (t:Tok) (w:Value) (r:List DictEntry) (e:es=⟨PyData.keyHash W x,.str x t,w⟩::r) (i:x.cps.toList=k) (y:p w) (z:q r)
inductive ConsE (es:List DictEntry) (k:Int) (p:Value→Prop) (q:List DictEntry→Prop):Prop
 |mk (t:Tok) (w:Value) (r:List DictEntry) (e:es=⟨k,.int k t,w⟩::r) (i:0≤k) (j:k < 1000000) (y:p w) (z:q r)
inductive ConsF (W:Params) (es:List DictEntry) (k:Nat) (p:Value→Prop) (q:List DictEntry→Prop):Prop
 |mk (t:Tok) (w:Value) (r:List DictEntry) (e:es=⟨PyData.keyHash W (dec k),.str (dec k) t,w⟩::r) (i:enc (dec k)=k) (y:p w) (z:q r)
section
variable {P P':Fz} (h:∀ a o,P a o→P' a o) {v:Value}
include h
theorem SeqAt.mono {t:String} {k k':List Value→Prop} (m:∀ l,k l→k' l) (x:SeqAt P t v k):SeqAt P' t v k':=
 let ⟨a,o,ws,n,e,p,c,d,r⟩:=x;⟨a,o,ws,n,e,h a o p,c,d,m _ r⟩
theorem DctAt.mono {k k':List DictEntry→Prop} (m:∀ l,k l→k' l) (x:DctAt P v k):DctAt P' v k':=
 let ⟨a,es,n,e,p,q,r⟩:=x;⟨a,es,n,e,h _ _ p,q,m _ r⟩
theorem InsAt.mono {c:Nat} {k k':List DictEntry→Prop} (m:∀ l,k l→k' l) (x:InsAt P c v k):InsAt P' c v k':=
 let ⟨x,d,sl,es,n,e,p,q,r⟩:=x;⟨x,d,sl,es,n,e,h _ _ p,h _ _ q,m _ r⟩
end
section
variable (W:Params) (P:Fz)
mutual
noncomputable def CR:C→Value→Prop
 | .none,v=>v= .none
 | .bool b,v=>v= .bool b
 | .int i,v=>∃ t,v= .int i t
 | .str s,v=>StrAt v s
 | .byt l,v=>BytAt v l
 | .tup l,v=>SeqAt P "tuple" v fun ws=>CRs l ws
 | .lst l,v=>SeqAt P "list" v fun ws=>CRs l ws
 | .rng a b c,v=>RngAt P v a b c
 | .dcs l,v=>DctAt P v fun es=>CRd l es
 | .dci l,v=>DctAt P v fun es=>CRe l es
 | .ins c l,v=>InsAt P c v fun es=>CRf l es
 | .obj a,v=>v= .ref a
 | .typ t,v=>v= .type t.nm
 | .blt b,v=>v= .builtin b.nm
noncomputable def CRs:List C→List Value→Prop
 | [],ws=>ws=[]
 |c::l,ws=>ConsAt ws (fun w=>CR c w) fun r=>CRs l r
noncomputable def CRd:List (List Nat × C)→List DictEntry→Prop
 | [],es=>es=[]
 | (k,c)::l,es=>ConsD W es k (fun w=>CR c w) fun r=>CRd l r
noncomputable def CRe:List (Int × C)→List DictEntry→Prop
 | [],es=>es=[]
 | (k,c)::l,es=>ConsE es k (fun w=>CR c w) fun r=>CRe l r
noncomputable def CRf:List (Nat × C)→List DictEntry→Prop
 | [],es=>es=[]
 | (k,c)::l,es=>ConsF W es k (fun w=>CR c w) fun r=>CRf l r
end
end
section
variable {W:Params} {P P':Fz}
theorem r6 {l:List C} (m:∀ c∈l,∀ v,CR W P c v→CR W P' c v):∀ ws,CRs W P l ws→CRs W P' l ws:=by
 induction l with
 |nil=>exact fun _ e=>e
 |cons c l ih=>exact fun _ ⟨w,r,e,x,y⟩=>⟨w,r,e,m c (.head _) _ x,ih (fun d hd=>m d (.tail _ hd)) _ y⟩
theorem x4 {l:List (List Nat × C)} (m:∀ p∈l,∀ v,CR W P p.2 v→CR W P' p.2 v):∀ ws,CRd W P l ws→CRd W P' l ws:=by
 induction l with
 |nil=>exact fun _ e=>e
 |cons c l ih=>exact fun _ ⟨x,t,w,r,e,k,y,z⟩=>⟨x,t,w,r,e,k,m c (.head _) _ y,ih (fun d hd=>m d (.tail _ hd)) _ z⟩
theorem x5 {l:List (Int × C)} (m:∀ p∈l,∀ v,CR W P p.2 v→CR W P' p.2 v):∀ ws,CRe W P l ws→CRe W P' l ws:=by
 induction l with
 |nil=>exact fun _ e=>e
 |cons c l ih=>exact fun _ ⟨t,w,r,e,k,k',y,z⟩=>⟨t,w,r,e,k,k',m c (.head _) _ y,ih (fun d hd=>m d (.tail _ hd)) _ z⟩
theorem x6 {l:List (Nat × C)} (m:∀ p∈l,∀ v,CR W P p.2 v→CR W P' p.2 v):∀ ws,CRf W P l ws→CRf W P' l ws:=by
 induction l with
 |nil=>exact fun _ e=>e
 |cons c l ih=>exact fun _ ⟨t,w,r,e,k,y,z⟩=>⟨t,w,r,e,k,m c (.head _) _ y,ih (fun d hd=>m d (.tail _ hd)) _ z⟩
variable (h:∀ a o,P a o→P' a o)
include h
theorem b9 (c:C):∀ v,CR W P c v→CR W P' c v:=
 C.rec (motive_1:=fun c=>∀ v,CR W P c v→CR W P' c v) (motive_2:=fun l=>∀ c∈l,∀ v,CR W P c v→CR W P' c v)
  (motive_3:=fun l=>∀ p∈l,∀ v,CR W P p.2 v→CR W P' p.2 v) (motive_4:=fun l=>∀ p∈l,∀ v,CR W P p.2 v→CR W P' p.2 v) (motive_5:=fun l=>∀ p∈l,∀ v,CR W P p.2 v→CR W P' p.2 v)
  (motive_6:=fun p=>∀ v,CR W P p.2 v→CR W P' p.2 v) (motive_7:=fun p=>∀ v,CR W P p.2 v→CR W P' p.2 v) (motive_8:=fun p=>∀ v,CR W P p.2 v→CR W P' p.2 v)
  (fun _ e=>e) (fun _ _ e=>e) (fun _ _ e=>e) (fun _ _ e=>e) (fun _ _ e=>e) (fun _ i _=>SeqAt.mono h (r6 i)) (fun _ i _=>SeqAt.mono h (r6 i))
  (fun _ _ _ _ ⟨r,ta,tb,tc,e,p,q⟩=>⟨r,ta,tb,tc,e,h _ _ p,q⟩) (fun _ i _=>DctAt.mono h (x4 i)) (fun _ i _=>DctAt.mono h (x5 i)) (fun _ _ i _=>InsAt.mono h (x6 i))
  (fun _ _ e=>e) (fun _ _ e=>e) (fun _ _ e=>e)
  (fun _ q=>nomatch q) (fun _ _ a b=>List.forall_mem_cons.mpr ⟨a,b⟩) (fun _ q=>nomatch q) (fun _ _ a b=>List.forall_mem_cons.mpr ⟨a,b⟩) (fun _ q=>nomatch q) (fun _ _ a b=>List.forall_mem_cons.mpr ⟨a,b⟩) (fun _ q=>nomatch q) (fun _ _ a b=>List.forall_mem_cons.mpr ⟨a,b⟩)
  (fun _ _ i=>i) (fun _ _ i=>i) (fun _ _ i=>i) c
theorem bW (l:List C):∀ ws,CRs W P l ws→CRs W P' l ws:=r6 fun c _=>b9 h c
theorem qB (l:List (List Nat × C)):∀ ws,CRd W P l ws→CRd W P' l ws:=x4 fun c _=>b9 h c.2
theorem x7 (l:List (Int × C)):∀ ws,CRe W P l ws→CRe W P' l ws:=x5 fun c _=>b9 h c.2
theorem qC (l:List (Nat × C)):∀ ws,CRf W P l ws→CRf W P' l ws:=x6 fun c _=>b9 h c.2
end
theorem bV {W:Params} {P:Fz}:∀ {l:List C} {ws:List Value},CRs W P l ws→ws.length=l.length
 | [],_,h=>congrArg List.length h
 |_::_,_,⟨_,_,e,_,h⟩=>e ▸ congrArg (·+1) (bV h)
theorem dB {W:Params} {P:Fz}:∀ {l m:List C} {ws us:List Value},CRs W P l ws→CRs W P m us→CRs W P (l++m) (ws++us)
 | [],_,_,_,h,g=>by subst h;exact g
 |_::_,_,_,_,⟨w,r,e,a,h⟩,g=>by subst e;exact ⟨w,r++_,rfl,a,dB h g⟩
theorem uA {W:Params} {P:Fz}:∀ {l:List C} {ws:List Value} {j:Nat} {x:C} {u:Value},CRs W P l ws→CR W P x u→CRs W P (l.set j x) (ws.set j u)
 | [],_,_,_,_,h,_=>by subst h;exact rfl
 |_::_,_,0,_,_,⟨_,r,e,_,h⟩,hx=>by subst e;exact ⟨_,r,rfl,hx,h⟩
 |_::_,_,j+1,_,_,⟨w,r,e,a,h⟩,hx=>by subst e;exact ⟨w,r.set j _,rfl,a,uA h hx⟩
noncomputable abbrev At (h:Heap):Fz:=fun a o=>h.get? a=some o
noncomputable def TopR (W:Params) (P:Fz) (h:Heap):C→Value→Prop
 | .lst l,v=>SeqAt (At h) "list" v fun ws=>CRs W P l ws
 | .dcs l,v=>DctAt (At h) v fun es=>CRd W P l es
 | .ins c l,v=>InsAt (At h) c v fun es=>CRf W P l es
 |c,v=>CR W P c v
noncomputable abbrev Inh (P:Fz) (h:Heap):Prop:=∀ a o,P a o→h.get? a=some o
noncomputable abbrev Kept (h h':Heap):Prop:=∀ b o,h.get? b=some o→h'.get? b=some o
theorem TopR.of {W:Params} {P:Fz} {h:Heap} (i:Inh P h) {c:C} {v:Value} (x:CR W P c v):TopR W P h c v:=by
 cases c with
 |lst l=>exact SeqAt.mono i (fun _ z=>z) x
 |dcs l=>exact DctAt.mono i (fun _ z=>z) x
 |ins c l=>exact InsAt.mono i (fun _ z=>z) x
 |_=>exact x
inductive SqA (h:Heap) (T:String) (v:Value) (k:List Value→Prop):Prop
 |mk (a:Addr) (ws:Array Value) (e:v= .ref a) (t:∃ o,h.get? a=some o∧o.cls= .type T∧∃ n,o.data= .seq ws n) (r:k ws.toList)
theorem sqA {P:Fz} {h:Heap} {T:String} {v:Value} {k:List Value→Prop} (i:Inh P h) (x:SeqAt P T v k):SqA h T v k:=
 let ⟨a,o,ws,n,e,p,c,d,r⟩:=x;⟨a,ws,e,⟨o,i a o p,cls1 c,n,d⟩,r⟩
theorem sqH {h:Heap} {T:String} {v:Value} {k:List Value→Prop} (x:SeqAt (fun a o=>h.get? a=some o) T v k):SqA h T v k:=sqA (fun _ _ e=>e) x
noncomputable def Mk (P:Fz) (h h':Heap):Fz:=fun a o=>P a o∨(h.objs.size≤a∧h'.get? a=some o)
noncomputable abbrev aS (W:Params) (P:Fz) (s:Shared) (x:C) (Q:Value→Shared→Prop):Prop:=
 ∀ r h' tk,Kept s.heap h'→s.heap.objs.size≤h'.objs.size→CR W (Mk P s.heap h') x r→Q r {s with heap:=h',toks:=tk}
theorem gK {P:Fz} {h:Heap} {o:Obj} (hf:o.isFreed=false):Mk P h (h.push o) h.objs.size o:=.inr ⟨Nat.le_refl _,Heap.get?_push_size _ hf⟩
theorem a8 {h:Heap} (o:Obj):Kept h (h.push o):=fun _ _ e=>Heap.get?_push_of_some o e
theorem aU {h:Heap} (o:Obj):h.objs.size≤(h.push o).objs.size:=Heap.size_push .. ▸ Nat.le_succ _
theorem mS (l:List Nat) (c:Nat):BE (l++[c])=BE l * 256+c:=List.foldl_append ..
theorem x8:∀ (f:Nat) (l acc:List Nat),l.length≤f→(∀ c∈l,1≤c∧c≤255)→FO f (BE l) acc=l++acc:=by
 intro f
 induction f with
 |zero=>
  intro l acc h _
  have:l=[]:=List.length_eq_zero_iff.mp (Nat.le_zero.mp h)
  subst this;rfl
 |succ f ih=>
  intro l acc h hc
  rcases List.eq_nil_or_concat l with rfl | ⟨l',c,rfl⟩
  ·exact if_pos rfl
  ·rw [List.concat_eq_append] at *
   have hcc:=hc c (by simp)
   refine (if_neg ?_).trans ?_
   ·rw [mS];lia
   ·rw [mS,Nat.mul_comm,Nat.mul_add_div (by decide),Nat.div_eq_of_lt (Nat.lt_succ_of_le hcc.2),Nat.mul_add_mod,Nat.mod_eq_of_lt (Nat.lt_succ_of_le hcc.2)]
    rw [List.append_assoc]
    exact ih l' (c::acc) (Nat.le_of_succ_le_succ (by rw [List.length_append] at h;exact h)) fun d hd=>hc d (List.mem_append_left _ hd)
theorem bP {x:Str} (h:a6 x=true):dec (enc x)=x∧(x == ("__debug__":Str))=false∧(x == ("__classdict__":Str))=false∧(x == ("super":Str))=false:=by
 unfold a6 at h
 simp only [Bool.and_eq_true,Bool.not_eq_true',List.all_eq_true] at h
 obtain ⟨⟨⟨⟨h1,h2⟩,h3⟩,h4⟩,h5⟩:=h
 have no:∀ {y:Str} {n:Nat},Nat.beq (enc x) n=false→Nat.beq (enc y) n=true→(x == y)=false:=fun {y n} a b=>by
  cases q:x == y with
  |false=>rfl
  |true=>rw [beq_iff_eq.mp q,b] at a;cases a
 refine ⟨?_,no h3 (by decide+kernel),no h4 (by decide+kernel),no h5 (by decide+kernel)⟩
 unfold dec enc
 rw [x8 40 x.cps.toList [] (Nat.le_of_ble_eq_true h1) (fun c hc=>And.imp Nat.le_of_ble_eq_true Nat.le_of_ble_eq_true (h2 c hc)),List.append_nil]
theorem k9 {x y:Str} (hx:a6 x=true) (hy:a6 y=true) (e:enc x=enc y):x=y:=by
 rw [← (bP hx).1,← (bP hy).1,e]
set_option backward.match.sparseCases true
set_option backward.match.sparseCases false
set_option genSizeOf false
set_option genInjectivity false
noncomputable abbrev Phi:=List (Addr × Addr)
noncomputable def Hs (p:Addr × Addr) (a:Addr):Prop:=a=p.1∨a=p.2
inductive Mu (φ:Phi) (a:Addr):Prop
 |mk (n:Nat) (p:Addr × Addr) (e:φ[n]? =some p) (i:Hs p a)
inductive OR (W:Params) (P:Fz) (h:Heap):O→Addr × Addr→Prop
 |lst {l:List C} {a:Addr} {ws:Array Value} {n:Nat} (g:h.get? a=some ⟨.type "list",none,.seq ws n,#[]⟩) (r:CRs W P l ws.toList):OR W P h (.lst l) (a,a)
 |dcs {l:List (List Nat × C)} {a:Addr} {es:Array DictEntry} {n:Nat} (g:h.get? a=some (dO es n)) (ne:a≠1) (r:CRd W P l es.toList):OR W P h (.dcs l) (a,a)
 |ins {c:Nat} {l:List (Nat × C)} {x d:Addr} {es:Array DictEntry} {n:Nat} (g:h.get? x=some ⟨.ref c,some d,.plain,#[]⟩) (g':h.get? d=some (dO es n)) (ne:x≠d) (r:CRf W P l es.toList):OR W P h (.ins c l) (x,d)
inductive ORn (W:Params) (P:Fz) (h:Heap) (φ:Phi) (n:Nat) (o:O):Prop
 |mk (p:Addr × Addr) (e:φ[n]? =some p) (r:OR W P h o p)
structure Wd where
 P:Fz
 φ:Phi
 s:Shared
noncomputable abbrev Wd.h (σ:Wd):Heap:=σ.s.heap
noncomputable abbrev Wd.sz (σ:Wd):Nat:=σ.s.heap.objs.size
noncomputable abbrev to (s:Shared) (h:Heap) (tk:Tok):Shared:={s with heap:=h,toks:=tk}
structure Ok (W:Params) (h₀:Heap) (σ:Wd) (H:List O):Prop where
 inh:Inh σ.P σ.h
 old:∀ a o,h₀.get? a=some o→σ.P a o
 objs:∀ n o,H[n]? =some o→ORn W σ.P σ.h σ.φ n o
 len:σ.φ.length=H.length
 apart:∀ (m n:Nat) (p q:Addr × Addr) (a:Addr),σ.φ[m]? =some p→σ.φ[n]? =some q→Hs p a→Hs q a→m=n
 free:∀ a,Mu σ.φ a→∀ o,¬σ.P a o
 low:1 < σ.sz
structure Le (own:Addr→Prop) (σ σ':Wd):Prop where
 up:∀ a o,σ.P a o→σ'.P a o
 new:∀ a o,σ'.P a o→σ.P a o∨σ.sz≤a
 get:∀ (n:Nat) (p:Addr × Addr),σ.φ[n]? =some p→σ'.φ[n]? =some p
 mu:∀ a,Mu σ'.φ a→Mu σ.φ a∨σ.sz≤a
 keep:∀ b o,σ.h.get? b=some o→¬Mu σ.φ b→¬own b→σ'.h.get? b=some o
 size:σ.sz≤σ'.sz
 s:σ'.s=to σ.s σ'.h σ'.s.toks
structure Go (W:Params) (h₀:Heap) (own:Addr→Prop) (σ σ':Wd) (H':List O):Prop where
 le:Le own σ σ'
 ok:Ok W h₀ σ' H'
noncomputable abbrev bG:Addr→Prop:=fun _=>False
theorem Le.refl {own:Addr→Prop} {σ:Wd}:Le own σ σ:=⟨fun _ _ e=>e,fun _ _ e=>.inl e,fun _ _ e=>e,fun _ e=>.inl e,fun _ _ e _ _=>e,Nat.le_refl _,rfl⟩
theorem dT {h:Heap} {a:Addr} {o:Obj} (e:h.get? a=some o) (q:h.objs.size≤a):False:=Nat.not_lt.mpr q (Heap.lt_size e)
theorem Le.trans {own:Addr→Prop} {σ σ' σ'':Wd} (x:Le own σ σ') (y:Le own σ' σ''):Le own σ σ'':=
 ⟨fun a o e=>y.up a o (x.up a o e),fun a o e=>(y.new a o e).elim (x.new a o) fun q=>.inr (Nat.le_trans x.size q),fun n p e=>y.get n p (x.get n p e),fun a e=>(y.mu a e).elim (x.mu a) fun q=>.inr (Nat.le_trans x.size q),
  fun b o e m n=>y.keep b o (x.keep b o e m n) (fun q=>(x.mu b q).elim m (dT e)) n,Nat.le_trans x.size y.size,y.s.trans (x.s ▸ rfl)⟩
theorem Le.weaken {own own':Addr→Prop} {σ σ':Wd} (x:Le own σ σ') (k:∀ a,own a→own' a∨σ.sz≤a):Le own' σ σ':=
 ⟨x.up,x.new,x.get,x.mu,fun b o e m n=>x.keep b o e m fun q=>(k b q).elim n (dT e),x.size,x.s⟩
theorem x9 {own:Addr→Prop} {n:Nat}:∀ a,bG a→own a∨n≤a:=fun _ q=>q.elim
section
variable {W:Params} {h₀:Heap} {own own':Addr→Prop} {σ σ' σ'':Wd} {H H' H'':List O}
theorem Go.trans (x:Go W h₀ own σ σ' H') (y:Go W h₀ own σ' σ'' H''):Go W h₀ own σ σ'' H'':=⟨x.le.trans y.le,y.ok⟩
theorem Go.weaken (x:Go W h₀ own σ σ' H') (k:∀ a,own a→own' a∨σ.sz≤a):Go W h₀ own' σ σ' H':=⟨x.le.weaken k,x.ok⟩
theorem Go.weak (x:Go W h₀ bG σ σ' H'):Go W h₀ own σ σ' H':=x.weaken x9
theorem Ok.go (x:Ok W h₀ σ H):Go W h₀ own σ σ H:=⟨.refl,x⟩
theorem qD {P P':Fz} {h h':Heap} {o:O} {p:Addr × Addr} (k:∀ a o,Hs p a→h.get? a=some o→h'.get? a=some o) (m:∀ a o,P a o→P' a o) (x:OR W P h o p):OR W P' h' o p:=by
 cases x with
 |lst g r=>exact .lst (k _ _ (.inl rfl) g) (bW m _ _ r)
 |dcs g ne r=>exact .dcs (k _ _ (.inl rfl) g) ne (qB m _ _ r)
 |ins g g' ne r=>exact .ins (k _ _ (.inl rfl) g) (k _ _ (.inr rfl) g') ne (qC m _ _ r)
theorem KE {P:Fz} {h:Heap} {o:O} {p:Addr × Addr} (x:OR W P h o p) {a:Addr} (i:Hs p a):a < h.objs.size:=by
 cases x with
 |lst g _=>rcases i with rfl |rfl <;> exact Heap.lt_size g
 |dcs g _ _=>rcases i with rfl |rfl <;> exact Heap.lt_size g
 |ins g g' _ _=>rcases i with rfl |rfl <;> first |exact Heap.lt_size g |exact Heap.lt_size g'
theorem Ok.obj (x:Ok W h₀ σ H) {n:Nat} {o:O} {p:Addr × Addr} (e:σ.φ[n]? =some p) (ho:H[n]? =some o):OR W σ.P σ.h o p:=by
 obtain ⟨q,hq,r⟩:=x.objs n o ho
 exact Option.some.inj (e.symm.trans hq) ▸ r
theorem Ok.lt (x:Ok W h₀ σ H) {a:Addr} (m:Mu σ.φ a):a < σ.sz:=by
 obtain ⟨n,p,e,i⟩:=m
 have hn:=x.len ▸ (List.getElem?_eq_some_iff.mp e).1
 exact KE (x.obj e (List.getElem?_eq_getElem hn)) i
theorem Ok.mu (x:Ok W h₀ σ H) {a:Addr} (q:σ.sz≤a):¬Mu σ.φ a:=fun m=>Nat.not_lt.mpr q (x.lt m)
theorem Ok.base (x:Ok W h₀ σ H) {P':Fz} {h':Heap} {tk:Tok} (up:∀ a o,σ.P a o→P' a o) (new:∀ a o,P' a o→σ.P a o∨σ.sz≤a) (inh:Inh P' h') (mu:∀ b o,Mu σ.φ b→σ.h.get? b=some o→h'.get? b=some o)
  (keep:∀ b o,σ.h.get? b=some o→¬Mu σ.φ b→¬own b→h'.get? b=some o) (sz:σ.sz≤h'.objs.size):Go W h₀ own σ ⟨P',σ.φ,to σ.s h' tk⟩ H:=
 ⟨⟨up,new,fun _ _ e=>e,fun _ e=>.inl e,keep,sz,rfl⟩,inh,fun a o e=>up a o (x.old a o e),fun n o e=>let ⟨p,hp,r⟩:=x.objs n o e;⟨p,hp,qD (fun a o i=>mu a o ⟨n,p,hp,i⟩) up r⟩,x.len,x.apart,
  fun a m o e=>(new a o e).elim (x.free a m o) fun q=>x.mu q m,Nat.lt_of_lt_of_le x.low sz⟩
theorem Ok.grow (x:Ok W h₀ σ H) {h':Heap} {tk:Tok} (k:Kept σ.h h') (sz:σ.sz≤h'.objs.size):Go W h₀ own σ ⟨Mk σ.P σ.h h',σ.φ,to σ.s h' tk⟩ H:=
 x.base (fun _ _ e=>.inl e) (fun _ _ e=>e.imp id (·.1)) (fun a o e=>e.elim (fun e=>k a o (x.inh a o e)) (·.2)) (fun b o _=>k b o) (fun b o e _ _=>k b o e) sz
theorem Ok.grow0 (x:Ok W h₀ σ H) {h':Heap} {tk:Tok} (k:∀ b o,¬own b→σ.h.get? b=some o→h'.get? b=some o) (f:∀ b,own b→¬Mu σ.φ b∧∀ o,¬σ.P b o) (sz:σ.sz≤h'.objs.size):Go W h₀ own σ ⟨σ.P,σ.φ,to σ.s h' tk⟩ H:=
 x.base (fun _ _ e=>e) (fun _ _ e=>.inl e) (fun a o e=>k a o (fun q=>(f a q).2 o e) (x.inh a o e)) (fun b o m e=>k b o (fun q=>(f b q).1 m) e) (fun b o e _ n=>k b o n e) sz
theorem Ok.put (x:Ok W h₀ σ H) {h':Heap} {tk:Tok} {n:Nat} {p:Addr × Addr} {o:O} (hp:σ.φ[n]? =some p) (k:∀ a,¬Hs p a→h'.get? a=σ.h.get? a) (sz:h'.objs.size=σ.sz) (y:OR W σ.P h' o p):Go W h₀ own σ ⟨σ.P,σ.φ,to σ.s h' tk⟩ (H.set n o) where
 le:=⟨fun _ _ e=>e,fun _ _ e=>.inl e,fun _ _ e=>e,fun _ e=>.inl e,fun b o e m _=>(k b fun q=>m ⟨n,p,hp,q⟩).trans e,Nat.le_of_eq sz.symm,rfl⟩
 ok:=⟨fun a o e=>(k a fun q=>x.free a ⟨n,p,hp,q⟩ o e).trans (x.inh a o e),x.old,fun m o' e=>by
   by_cases q:n=m
   ·subst q
    rw [List.getElem?_set_self (x.len ▸ (List.getElem?_eq_some_iff.mp hp).1)] at e
    exact ⟨p,hp,Option.some.inj e ▸ y⟩
   ·rw [List.getElem?_set_ne q] at e
    obtain ⟨p',hp',r⟩:=x.objs m o' e
    exact ⟨p',hp',qD (fun a o i e=>(k a fun j=>q (x.apart n m p p' a hp hp' j i)).trans e) (fun _ _ z=>z) r⟩,
  x.len.trans (List.length_set ..).symm,x.apart,x.free,Nat.lt_of_lt_of_eq x.low sz.symm⟩
theorem Ok.make (x:Ok W h₀ σ H) {h':Heap} {tk:Tok} {p:Addr × Addr} {o:O} (k:Kept σ.h h') (sz:σ.sz≤h'.objs.size) (hp:∀ a,Hs p a→σ.sz≤a) (y:OR W σ.P h' o p):Go W h₀ own σ ⟨σ.P,σ.φ++[p],to σ.s h' tk⟩ (H++[o]):=by
 have old:∀ {n:Nat} {q:Addr × Addr},n < σ.φ.length→(σ.φ++[p])[n]? =some q→σ.φ[n]? =some q:=fun l e=>(List.getElem?_append_left l).symm.trans e
 have cs:∀ {n:Nat} {q:Addr × Addr},(σ.φ++[p])[n]? =some q→σ.φ[n]? =some q∨(n=σ.φ.length∧q=p):=fun {n q} e=>by
  rcases Nat.lt_or_ge n σ.φ.length with l |l
  ·exact .inl (old l e)
  ·have e':=(List.getElem?_append_right l).symm.trans e
   have hn:=(List.getElem?_eq_some_iff.mp e').1
   have:n - σ.φ.length=0:=Nat.lt_one_iff.mp hn
   rw [this] at e'
   exact .inr ⟨Nat.le_antisymm (Nat.sub_eq_zero_iff_le.mp this) l,(Option.some.inj e').symm⟩
 have mu:∀ a,Mu (σ.φ++[p]) a→Mu σ.φ a∨σ.sz≤a:=fun a ⟨n,q,e,i⟩=>(cs e).elim (fun e=>.inl ⟨n,q,e,i⟩) fun e=>.inr (hp a (e.2 ▸ i))
 have get:∀ (n:Nat) (q:Addr × Addr),σ.φ[n]? =some q→(σ.φ++[p])[n]? =some q:=fun n q e=>(List.getElem?_append_left (List.getElem?_eq_some_iff.mp e).1).trans e
 refine ⟨⟨fun _ _ e=>e,fun _ _ e=>.inl e,get,mu,fun b o e _ _=>k b o e,sz,rfl⟩,fun a o e=>k a o (x.inh a o e),x.old,fun n o' e=> ?_,?_,fun m n q q' a e e' i i'=> ?_,fun a m o e=>(mu a m).elim (fun m=>x.free a m o e) (dT (x.inh a o e)),Nat.lt_of_lt_of_le x.low sz⟩
 ·rcases Nat.lt_or_ge n H.length with l |l
  ·obtain ⟨q,hq,r⟩:=x.objs n o' ((List.getElem?_append_left l).symm.trans e)
   exact ⟨q,get n q hq,qD (fun a o _=>k a o) (fun _ _ z=>z) r⟩
  ·have e':=(List.getElem?_append_right l).symm.trans e
   have hn:=(List.getElem?_eq_some_iff.mp e').1
   have h0:n - H.length=0:=Nat.lt_one_iff.mp hn
   rw [h0] at e'
   have hn:n=σ.φ.length:=(Nat.le_antisymm (Nat.sub_eq_zero_iff_le.mp h0) l).trans x.len.symm
   subst hn
   exact ⟨p,List.getElem?_concat_length,Option.some.inj e' ▸ y⟩
 ·rw [List.length_append,List.length_append,x.len];rfl
 ·rcases cs e with e1 | ⟨rfl,rfl⟩ <;> rcases cs e' with e2 | ⟨rfl,rfl⟩
  ·exact x.apart m n q q' a e1 e2 i i'
  ·exact absurd (x.lt ⟨m,q,e1,i⟩) (Nat.not_lt.mpr (hp a i'))
  ·exact absurd (x.lt ⟨n,q',e2,i'⟩) (Nat.not_lt.mpr (hp a i))
  ·rfl
theorem Go.more (x:Go W h₀ own σ σ' H) {P':Fz} (up:∀ a o,σ'.P a o→P' a o) (new:∀ a o,P' a o→σ'.P a o∨σ.sz≤a∧σ'.h.get? a=some o∧¬Mu σ'.φ a):Go W h₀ own σ ⟨P',σ'.φ,σ'.s⟩ H:=
 ⟨⟨fun a o e=>up a o (x.le.up a o e),fun a o e=>(new a o e).elim (x.le.new a o) fun q=>.inr q.1,x.le.get,x.le.mu,x.le.keep,x.le.size,x.le.s⟩,
  fun a o e=>(new a o e).elim (x.ok.inh a o) fun q=>q.2.1,fun a o e=>up a o (x.ok.old a o e),fun n o e=>let ⟨p,hp,r⟩:=x.ok.objs n o e;⟨p,hp,qD (fun _ _ _ z=>z) up r⟩,x.ok.len,x.ok.apart,
  fun a m o e=>(new a o e).elim (x.ok.free a m o) fun q=>q.2.2 m,x.ok.low⟩
end
inductive RefAt (φ:Phi) (n:Nat) (v:Value):Prop
 |mk (p:Addr × Addr) (e:φ[n]? =some p) (v:v= .ref p.1)
inductive Tops {α:Type} (R:α→Value→Prop):List α→List Value→Prop
 |nil:Tops R [] []
 |cons {c u cs us}:R c u→Tops R cs us→Tops R (c::cs) (u::us)
section
variable (W:Params) (P:Fz) (φ:Phi)
noncomputable def TR1:V→Value→Prop
 | .c x,v=>CR W P x v
 | .r n,v=>RefAt φ n v
 | .t _,_=>False
noncomputable def TR:V→Value→Prop
 | .t l,v=>SeqAt P "tuple" v fun ws=>Tops (TR1 W P φ) l ws
 | .c x,v=>CR W P x v
 | .r n,v=>RefAt φ n v
end
noncomputable abbrev TRs (W:Params) (σ:Wd) (vs:List V) (us:List Value):Prop:=Tops (TR W σ.P σ.φ) vs us
section
variable {W:Params} {α β:Type} {R R':α→Value→Prop}
theorem Tops.imp {cs:List α} {us:List Value} (m:∀ c u,R c u→R' c u) (t:Tops R cs us):Tops R' cs us:=by
 induction t with
 |nil=>exact .nil
 |cons a _ ih=>exact .cons (m _ _ a) ih
theorem Tops.len {cs:List α} {us:List Value} (t:Tops R cs us):us.length=cs.length:=by
 induction t with
 |nil=>rfl
 |cons _ _ ih=>exact congrArg (·+1) ih
variable {P P':Fz} {φ φ':Phi} (m:∀ a o,P a o→P' a o) (g:∀ (n:Nat) (p:Addr × Addr),φ[n]? =some p→φ'[n]? =some p)
include m g
theorem qE (v:V) (u:Value) (t:TR1 W P φ v u):TR1 W P' φ' v u:=by
 cases v with
 |c c=>exact b9 m c u t
 |r n=>exact let ⟨p,e,h⟩:=t;⟨p,g n p e,h⟩
 |t l=>exact t
theorem oD (v:V) (u:Value) (t:TR W P φ v u):TR W P' φ' v u:=by
 cases v with
 |c c=>exact b9 m c u t
 |r n=>exact qE (W:=W) m g (.r n) u t
 |t l=>exact SeqAt.mono m (fun _=>Tops.imp (qE m g)) t
end
theorem Le.tr {W:Params} {own:Addr→Prop} {σ σ':Wd} (x:Le own σ σ') {v:V} {u:Value} (t:TR W σ.P σ.φ v u):TR W σ'.P σ'.φ v u:=oD x.up x.get v u t
theorem Le.trs {W:Params} {own:Addr→Prop} {σ σ':Wd} (x:Le own σ σ') {vs:List V} {us:List Value} (t:TRs W σ vs us):TRs W σ' vs us:=t.imp (oD x.up x.get)
theorem Le.cr {W:Params} {own:Addr→Prop} {σ σ':Wd} (x:Le own σ σ') {c:C} {u:Value} (t:CR W σ.P c u):CR W σ'.P c u:=b9 x.up c u t
theorem eW {W:Params} {P:Fz} {φ:Phi} {vs:List V} {us:List Value} (t:Tops (TR W P φ) vs us):∀ {cs:List C},eO vs=some cs→CRs W P cs us:=by
 induction t with
 |nil=>intro cs e;cases e;rfl
 | @cons v u vs us a b ih=>
  intro cs e
  cases v with
  |c x=>
   obtain ⟨cs',e',rfl⟩:=Option.map_eq_some_iff.mp e
   exact ⟨u,us,rfl,a,ih e'⟩
  |r n=>cases e
  |t l=>cases e
set_option genSizeOf true
set_option genInjectivity true
set_option backward.match.sparseCases true
set_option backward.match.sparseCases false
structure Room (A:Around) (d:Nat):Prop where
 handled:A.handled=none
 depth:A.depth+3 * d≤900
 units:A.units+100 * d≤9000
theorem Room.u {A:Around} {d:Nat} (x:Room A d):A.units≤9000:=Nat.le_trans (Nat.le_add_right ..) x.units
noncomputable def eS (prog:Program) (w:World) (h:Heap) (f:Value):Prop:=∃ k,(k=Keeper.frame∨k=Keeper.machine∨k=Keeper.boundFrame)∧Looks (model prog w) h (keeperOf f) k
section
variable (prog:Program) (w:World) (h₀:Heap) (T:Tb)
structure Op1:Prop where
 bin:∀ {op a b x},vF op a b=some x→∀ {A:Around} {s:Shared} {P:Fz} {Q} {E:Value→Shared→Prop} {u v},A.units≤9000→Kept h₀ s.heap→Inh P s.heap→TopR w.params P s.heap a u→TopR w.params P s.heap b v→
  aS w.params P s x Q→wpAny (model prog w) A (binaryOp op u v) Q E s
 neg:∀ {i t} {A:Around} {s:Shared} {Q} {E:Value→Shared→Prop},(∀ tk tk',Q (.int (-i) tk) {s with toks:=tk'})→wpAny (model prog w) A (unaryOp .USub (.int i t)) Q E s
 cmp:∀ {op a b t},BJ op a b=some t→∀ {A:Around} {s:Shared} {P:Fz} {Q} {E:Value→Shared→Prop} {u v},A.units≤9000→Kept h₀ s.heap→Inh P s.heap→TopR w.params P s.heap a u→TopR w.params P s.heap b v→
  (∀ h' tk,Kept s.heap h'→s.heap.objs.size≤h'.objs.size→Q (.bool t) {s with heap:=h',toks:=tk})→wpAny (model prog w) A (compareOp op u v) Q E s
 tru:∀ {l:List C},l.length≤lim→∀ {A:Around} {s:Shared} {P:Fz} {Q} {E:Value→Shared→Prop} {u},Kept h₀ s.heap→Inh P s.heap→TopR w.params P s.heap (.lst l) u→
  (∀ h' tk,Kept s.heap h'→s.heap.objs.size≤h'.objs.size→Q (!l.isEmpty) {s with heap:=h',toks:=tk})→wpAny (model prog w) A (truthy u) Q E s
 atr:∀ {c fs n x},pB T c n=true→lk fs n=some x→∀ {A:Around} {s:Shared} {P:Fz} {Q} {E:Value→Shared→Prop} {u},Kept h₀ s.heap→Inh P s.heap→TopR w.params P s.heap (.ins c fs) u→
  aS w.params P s x Q→wpAny (model prog w) A (getAttr u (dec n) true) Q E s
 idx:∀ {o i x},iX o i=some x→∀ {A:Around} {s:Shared} {P:Fz} {Q} {E:Value→Shared→Prop} {u v},Kept h₀ s.heap→Inh P s.heap→TopR w.params P s.heap o u→CR w.params P i v→
  aS w.params P s x Q→wpAny (model prog w) A (do let p ← getitemInPython u;match p with
   |true=>runValue (.builtin "lifetime.subscript" ⟨[u,v],[]⟩)
   |false=>operate [u,v] (getItem u v)) Q E s
 sli:∀ {o lo hi x},j5 o lo hi=some x→∀ {A:Around} {s:Shared} {P:Fz} {Q} {E:Value→Shared→Prop} {u a b},Kept h₀ s.heap→Inh P s.heap→TopR w.params P s.heap o u→CR w.params P lo a→CR w.params P hi b→
  aS w.params P s x Q→wpAny (model prog w) A (newFields "slice" [a,b,.none]) (fun iv s'=>wpAny (model prog w) A (do let p ← getitemInPython u;operate [iv,u] (getItem u iv)) Q E s') E s
 gmf:∀ {c fs m a},T.me c m=some a→lk fs m=none→∀ {A:Around} {s:Shared} {P:Fz} {Q} {E:Value→Shared→Prop} {u} {pl},Kept h₀ s.heap→Inh P s.heap→TopR w.params P s.heap (.ins c fs) u→
  Q (.ref a,[u]) s→wpAny (model prog w) A (getMethod u (dec m) pl) Q E s
structure Op2:Prop where
 gmb:∀ {o m b},dD o m=some b→(∀ l,o≠.lst l)→∀ {A:Around} {s:Shared} {P:Fz} {Q} {E:Value→Shared→Prop} {u} {pl},Inh P s.heap→TopR w.params P s.heap o u→
  Q (.builtin b.id,[u]) s→wpAny (model prog w) A (getMethod u (dec m) pl) Q E s
 gml:∀ {l m b},dD (.lst l) m=some b→∀ {A:Around} {s:Shared} {Q} {E:Value→Shared→Prop} {a ws n} {pl},s.heap.get? a=some ⟨.type "list",none,.seq ws n,#[]⟩→
  Q (.builtin b.id,[.ref a]) s→wpAny (model prog w) A (getMethod (.ref a) (dec m) pl) Q E s
 met:∀ {b o cs x},hG b o cs=some x→∀ {A:Around} {s:Shared} {P:Fz} {Q} {E:Value→Shared→Prop} {u us},A.units≤9000→Kept h₀ s.heap→Inh P s.heap→TopR w.params P s.heap o u→Tops (TopR w.params P s.heap) cs us→
  aS w.params P s x Q→wpAny (model prog w) A (call (.builtin b.id) (u::us)) Q E s
 app:∀ {a ws n u} {A:Around} {s:Shared} {Q} {E:Value→Shared→Prop},ws.size≤sizeLine→s.heap.get? a=some ⟨.type "list",none,.seq ws n,#[]⟩→
  (∀ h' n' tk,h'.get? a=some ⟨.type "list",none,.seq (ws.push u) n',#[]⟩→(∀ b,b≠a→h'.get? b=s.heap.get? b)→h'.objs.size=s.heap.objs.size→Q .none {s with heap:=h',toks:=tk})→
  wpAny (model prog w) A (call (.builtin "list.append") [.ref a,u]) Q E s
 ext:∀ {a ws n b ws' o n'} {A:Around} {s:Shared} {Q} {E:Value→Shared→Prop},ws.size+ws'.size≤lim→s.heap.get? a=some ⟨.type "list",none,.seq ws n,#[]⟩→a≠b→s.heap.get? b=some o→o.cls= .type "list"→o.data= .seq ws' n'→
  (∀ h' n' tk,h'.get? a=some ⟨.type "list",none,.seq (ws++ws') n',#[]⟩→(∀ b,b≠a→h'.get? b=s.heap.get? b)→h'.objs.size=s.heap.objs.size→Q .none {s with heap:=h',toks:=tk})→
  wpAny (model prog w) A (call (.builtin "list.extend") [.ref a,.ref b]) Q E s
structure Op3:Prop where
 sat:∀ {c fs a x},jT T c (enc a)=true→fs.length≤30→a6 a=true→∀ {A:Around} {s:Shared} {P:Fz} {Q:Unit→Shared→Prop} {E:Value→Shared→Prop} {o d es n u},Kept h₀ s.heap→Inh P s.heap→
  s.heap.get? o=some ⟨.ref c,some d,.plain,#[]⟩→s.heap.get? d=some (dO es n)→CRf w.params P fs es.toList→CR w.params P x u→
  (∀ h' es' n' tk,h'.get? d=some (dO es' n')→(∀ b,b≠d→h'.get? b=s.heap.get? b)→h'.objs.size=s.heap.objs.size→CRf w.params P (put (enc a) x fs) es'.toList→Q () {s with heap:=h',toks:=tk})→
  wpAny (model prog w) A (setAttr (.ref o) a u) Q E s
 sil:∀ {A:Around} {s:Shared} {Q:Unit→Shared→Prop} {E:Value→Shared→Prop} {a ws n u i t j},ixS i ws.size=some j→s.heap.get? a=some ⟨.type "list",none,.seq ws n,#[]⟩→
  (∀ h' n' tk,h'.get? a=some ⟨.type "list",none,.seq (ws.setIfInBounds j u) n',#[]⟩→(∀ b,b≠a→h'.get? b=s.heap.get? b)→h'.objs.size=s.heap.objs.size→Q () {s with heap:=h',toks:=tk})→
  wpAny (model prog w) A (setItem (.ref a) (.int i t) u) Q E s
 sid:∀ {A:Around} {s:Shared} {P:Fz} {Q:Unit→Shared→Prop} {E:Value→Shared→Prop} {a es n u y t l x},l.length≤8→mE (l.map (·.1))=true→a≠1→Inh P s.heap→s.heap.get? a=some (dO es n)→CRd w.params P l es.toList→CR w.params P x u→
  (∀ h' es' n' tk,h'.get? a=some (dO es' n')→(∀ b,b≠a→h'.get? b=s.heap.get? b)→h'.objs.size=s.heap.objs.size→CRd w.params P (vE y.cps.toList x l) es'.toList→Q () {s with heap:=h',toks:=tk})→
  wpAny (model prog w) A (setItem (.ref a) (.str y t) u) Q E s
end
noncomputable def iterNames:List String:=["list_iterator","tuple_iterator","bytes_iterator","str_ascii_iterator","str_iterator","range_iterator","longrange_iterator","dict_keyiterator"]
inductive IsIter (h:Heap) (I:Addr):Prop
 |mk (o:Obj) (nm:String) (g:h.get? I=some o) (c:o.cls= .type nm) (m:iterNames.contains nm=true)
structure Iter (prog:Program) (w:World) (A:Around) (P:Fz) (cs:List C) (I:Addr) (fp:List Addr) (St:Nat→Heap→Prop):Prop where
 walks:Walks prog w A I fp [I] cs.length (fun i v=>∃ c,cs[i]? =some c∧CR w.params P c v) St
 cls:∀ i h,St i h→IsIter h I
theorem CV {nm:String} (h:iterNames.contains nm=true):(["enumerate","zip","dict_itemiterator","dict_reverseitemiterator","odict_iterator","itertools.zip_longest","itertools.pairwise"]:List String).contains nm=false:=by
 have q:iterNames.all (fun nm=> !(["enumerate","zip","dict_itemiterator","dict_reverseitemiterator","odict_iterator","itertools.zip_longest","itertools.pairwise"]:List String).contains nm)=true:=by decide
 simpa using List.all_eq_true.mp q nm (List.contains_iff_mem.mp h)
set_option backward.match.sparseCases true in
theorem qF {prog:Program} {w:World} {A:Around} {E:Value→Shared→Prop} {s:Shared} {target:Expr} {I:Addr} {v:Value} {Q:Unit→Shared→Prop} (h:IsIter s.heap I) (hQ:Q () s):
  wpAny (model prog w) A (letOwnedTupleGo target (.ref I) v) Q E s:=by
 have go:∀ {a:Addr},wpAny (model prog w) A (do
   let o ← load I
   match o.cls,o.data with
   | .type n,.fields vs=>
    if ["enumerate","zip","dict_itemiterator","dict_reverseitemiterator","odict_iterator","itertools.zip_longest","itertools.pairwise"].contains n && vs[0]? == some (rawInt a) then
     rule "for.unpacks-the-owned-tuple"
     updateField I 0 .none
   |_,_=>pure ()) Q E s:=by
  intro a
  obtain ⟨o,nm,ho,hc,hn⟩:=h
  refine wpAny_bind (wpAny_load ho ?_)
  rw [hc]
  cases o.data <;> first |exact wpAny_pure hQ |skip
  refine wpAny_ite_false ?_ (wpAny_pure hQ)
  rw [CV hn,Bool.false_and];rfl
 unfold letOwnedTupleGo
 cases target <;> first |exact wpAny_pure hQ |skip
 ·cases v <;> first |exact wpAny_pure hQ |exact go
 ·cases v <;> first |exact wpAny_pure hQ |exact go
section
variable (prog:Program) (w:World) (h₀:Heap)
structure Op4:Prop where
 iter:∀ {c cs},eP c=some cs→∀ {A:Around} {s:Shared} {P:Fz} {Q} {E:Value→Shared→Prop} {u},A.handled=none→Kept h₀ s.heap→Inh P s.heap→CR w.params P c u→
  (∀ I fp St h' tk,Iter prog w A P cs I fp St→St 0 h'→Kept s.heap h'→s.heap.objs.size≤h'.objs.size→s.heap.objs.size≤I→(∀ b∈fp,b=I∨∃ o,P b o)→Q (.ref I) {s with heap:=h',toks:=tk})→wpAny (model prog w) A (pyIter u) Q E s
 iterD:∀ {A:Around} {s:Shared} {Q} {E:Value→Shared→Prop} {a n},A.handled=none→Kept h₀ s.heap→a≠1→s.heap.get? a=some (dO #[] n)→
  (∀ I h' tk,Kept s.heap h'→s.heap.objs.size≤h'.objs.size→s.heap.objs.size≤I→IsIter h' I→
   (∀ {Q':Option Value→Shared→Prop} {E':Value→Shared→Prop},(∀ h'' tk',(∀ b o,b≠I→h'.get? b=some o→h''.get? b=some o)→Q' none {s with heap:=h'',toks:=tk'})→wpAny (model prog w) A (pyNext (.ref I)) Q' E' {s with heap:=h',toks:=tk})→
   (∀ {Q':Value→Shared→Prop} {E':Value→Shared→Prop} {s':Shared},s'.heap.get? I=h'.get? I→Q' (.ref I) s'→wpAny (model prog w) A (pyIter (.ref I)) Q' E' s')→
   Q (.ref I) {s with heap:=h',toks:=tk})→wpAny (model prog w) A (pyIter (.ref a)) Q E s
structure Op5:Prop where
 dst:∀ {A:Around} {s:Shared} {Q:Unit→Shared→Prop} {E:Value→Shared→Prop} {a n y t u},a≠1→s.heap.get? a=some (dO #[] n)→
  (∀ h' n' t' tk,h'.get? a=some (dO #[⟨PyData.keyHash w.params y,.str y t',u⟩] n')→(∀ b,b≠a→h'.get? b=s.heap.get? b)→h'.objs.size=s.heap.objs.size→Q () {s with heap:=h',toks:=tk})→
  wpAny (model prog w) A (dictSet a (.str y t) u) Q E s
structure Op6:Prop where
 blt:∀ {b cs x},iY b cs=some x→∀ {A:Around} {s:Shared} {P:Fz} {Q} {E:Value→Shared→Prop} {us},Room A 0→Kept h₀ s.heap→Inh P s.heap→Tops (TopR w.params P s.heap) cs us→aS w.params P s x Q→wpAny (model prog w) A (call (.builtin b.nm) us) Q E s
 typ:∀ {t cs x},iZ t cs=some x→∀ {A:Around} {s:Shared} {P:Fz} {Q} {E:Value→Shared→Prop} {us},Room A 0→Kept h₀ s.heap→Inh P s.heap→Tops (TopR w.params P s.heap) cs us→aS w.params P s x Q→wpAny (model prog w) A (call (.type t.nm) us) Q E s
 keepT:∀ (t:Ty) (h:Heap),eS prog w h (.type t.nm)
end
set_option backward.match.sparseCases true
set_option backward.match.sparseCases false
inductive NsAt (h:Heap) (a:Addr) (p:(Str→Option Value)→Prop):Prop
 |mk (m:Str→Option Value) (n:h.Ns a m) (g:p m)
inductive CellAt (h:Heap) (env:Env) (x:Str) (p:Option Value→Prop):Prop
 |mk (c:Addr) (u:Option Value) (e:env.cells.lookup x=some c) (i:h.IsCell c u) (t:p u)
structure Stat (k:Kn) (env:Env):Prop where
 kind:env.scope.kind= .function
 glo:env.globals=mainGlobals
 blt:env.builtins=builtinsNs
 kl:∀ x,k x=some .local→env.kindOf x=some .local
 kc:∀ x,k x=some .cell→env.kindOf x=some .cell
 kf:∀ x,k x=some .free→env.kindOf x=some .cell∨env.kindOf x=some .free
 kg:∀ x,k x=some .globalImplicit→env.kindOf x=some .globalImplicit
 sep:∀ x c,nkF (k x)=true→env.cells.lookup x=some c→c≠env.locals
 apart:∀ x y c,k x=some .cell→nkF (k y)=true→env.cells.lookup x=some c→env.cells.lookup y=some c→x=y
inductive Mine (k:Kn) (env:Env):Addr→Prop
 |loc:Mine k env env.locals
 |cel (x:Str) (a:Addr) (h:nkF (k x)=true) (e:env.cells.lookup x=some a):Mine k env a
inductive ownOf (k:Kn) (env:Env):Addr→Prop
 |loc:ownOf k env env.locals
 |cel (x:Str) (a:Addr) (h:k x=some .cell) (e:env.cells.lookup x=some a):ownOf k env a
theorem ownOf.mine {k:Kn} {env:Env} {a:Addr} (x:ownOf k env a):Mine k env a:=by
 cases x with
 |loc=>exact .loc
 |cel x _ h e=>exact .cel x a (h ▸ rfl) e
noncomputable def VR (W:Params) (σ:Wd) (v:V) (u:Option Value):Prop:=∃ x,u=some x∧TR W σ.P σ.φ v x
structure Prv (σ:Wd) (a:Addr):Prop where
 mu:¬Mu σ.φ a
 fz:∀ o,¬σ.P a o
 lt:a < σ.sz
theorem Prv.up {own:Addr→Prop} {σ σ':Wd} {a:Addr} (p:Prv σ a) (x:Le own σ σ'):Prv σ' a:=
 ⟨fun q=>(x.mu a q).elim p.mu (Nat.not_le.mpr p.lt),fun o q=>(x.new a o q).elim (p.fz o) (Nat.not_le.mpr p.lt),Nat.lt_of_lt_of_le p.lt x.size⟩
theorem Ok.prv {W:Params} {h₀:Heap} {σ:Wd} {H:List O} (k:Ok W h₀ σ H) {a:Addr} (ha:σ.sz≤a) {s:Shared} (lt:a < s.heap.objs.size):Prv ⟨σ.P,σ.φ,s⟩ a:=
 ⟨k.mu ha,fun o q=>dT (k.inh a o q) ha,lt⟩
structure Frm (W:Params) (k:Kn) (env:Env) (vs:List (Nat × V)) (σ:Wd):Prop where
 st:Stat k env
 ns:NsAt σ.h env.locals fun m=>∀ x,a6 x=true→k x=some .local→∀ v,lk vs (enc x)=some v→VR W σ v (m x)
 cell:∀ x,nkF (k x)=true→CellAt σ.h env x fun u=>a6 x=true→∀ v,lk vs (enc x)=some v→VR W σ v u
 own:∀ a,Mine k env a→Prv σ a
theorem i9 {h h':Heap} {c:Addr} {u:Option Value} (k:∀ o,h.get? c=some o→h'.get? c=some o) (x:h.IsCell c u):h'.IsCell c u:=let ⟨o,g,d⟩:=x;⟨o,k o g,d⟩
section
variable {W:Params} {h₀:Heap} {k:Kn} {env:Env} {vs:List (Nat × V)} {σ σ':Wd} {own:Addr→Prop} {H H':List O}
theorem VR.mono (t:∀ v u,TR W σ.P σ.φ v u→TR W σ'.P σ'.φ v u) {v:V} {u:Option Value} (x:VR W σ v u):VR W σ' v u:=let ⟨y,e,z⟩:=x;⟨y,e,t _ _ z⟩
theorem Frm.to (f:Frm W k env vs σ) (kp:∀ a o,Mine k env a→σ.h.get? a=some o→σ'.h.get? a=some o) (t:∀ v u,TR W σ.P σ.φ v u→TR W σ'.P σ'.φ v u) (ow:∀ a,Mine k env a→Prv σ' a):Frm W k env vs σ' where
 st:=f.st
 ns:=let ⟨m,n,g⟩:=f.ns;⟨m,n.at fun o e=>kp _ o .loc e,fun x ok hk v hv=>(g x ok hk v hv).mono t⟩
 cell:=fun x hx=>let ⟨c,u,e,i,g⟩:=f.cell x hx;⟨c,u,e,i9 (fun o q=>kp c o (.cel x c hx e) q) i,fun ok v hv=>(g ok v hv).mono t⟩
 own:=ow
theorem Frm.up (f:Frm W k env vs σ) (x:Le own σ σ') (no:∀ a,Mine k env a→¬own a):Frm W k env vs σ':=
 f.to (fun a o m e=>x.keep a o e (f.own a m).mu (no a m)) (fun _ _=>x.tr) fun a m=>(f.own a m).up x
structure Sit (W:Params) (h₀:Heap) (k:Kn) (env:Env) (A:Around) (F:Fm) (σ:Wd) (H:List O):Prop where
 rm:Room A F.d
 fr:Frm W k env F.vs σ
 ok:Ok W h₀ σ H
theorem Sit.up {A:Around} {F:Fm} (c:Sit W h₀ k env A F σ H) (x:Go W h₀ bG σ σ' H'):Sit W h₀ k env A F σ' H':=⟨c.rm,c.fr.up x.le fun _ _ q=>q,x.ok⟩
theorem Sit.kept {A:Around} {F:Fm} (c:Sit W h₀ k env A F σ H):Kept h₀ σ.h:=fun a o e=>c.ok.inh a o (c.ok.old a o e)
theorem Ok.kept (c:Ok W h₀ σ H):Kept h₀ σ.h:=fun a o e=>c.inh a o (c.old a o e)
noncomputable def Sat (W:Params) (h₀:Heap) (σ:Wd) (q:KV) (Q:Value→Shared→Prop):Prop:=∀ v H' u σ',q v H'→Go W h₀ bG σ σ' H'→TR W σ'.P σ'.φ v u→Q u σ'.s
noncomputable def oE (W:Params) (h₀:Heap) (σ:Wd) (q:KB) (Q:Bool→Shared→Prop):Prop:=∀ b H' σ',q b H'→Go W h₀ bG σ σ' H'→Q b σ'.s
noncomputable def FlR (W:Params) (σ:Wd):Fl→Flow→Prop
 | .nx,f=>f= .next
 | .bk,f=>f= .brk
 | .rt v,f=>∃ u,f= .ret u∧TR W σ.P σ.φ v u
noncomputable def SatF (W:Params) (h₀:Heap) (k:Kn) (env:Env) (σ:Wd) (d:Nat) (q:KF) (Q:Flow→Shared→Prop):Prop:=
 ∀ fl F' H' f σ',q fl F' H'→F'.d=d→Go W h₀ (ownOf k env) σ σ' H'→Frm W k env F'.vs σ'→FlR W σ' fl f→Q f σ'.s
end
section
variable (prog:Program) (w:World) (h₀:Heap) (G:Nat→Option C)
structure Base:Prop where
 lim:h₀.NoLimit
 glob:∀ {x c},a6 x=true→G (enc x)=some c→∀ {env:Env} {A:Around} {s:Shared} {Q} {E:Value→Shared→Prop},env.globals=mainGlobals→env.builtins=builtinsNs→Kept h₀ s.heap→
  (∀ v,CR w.params (fun a o=>h₀.get? a=some o) c v→Q v s)→wpAny (model prog w) A (loadGlobal env x) Q E s
structure Snd (r:Rec):Prop where
 bad:∀ {F H q},r.ex .bad F H q→False
 con:∀ {c F H q},r.ex (.con c) F H q→q (.c c) H
 ex:∀ {N k x F H q},r.ex (cX G N k x) F H q→∀ {env A σ Q} {E:Value→Shared→Prop},Sit w.params h₀ k env A F σ H→Sat w.params h₀ σ q Q→wpAny (model prog w) A (eval x env) Q E σ.s
 ts:∀ {N k x F H q},r.ts (cX G N k x) F H q→∀ {env A σ Q} {E:Value→Shared→Prop},Sit w.params h₀ k env A F σ H→oE w.params h₀ σ q Q→wpAny (model prog w) A (isTrue x env (eval x env)) Q E σ.s
 st:∀ {N k x F H q},r.st (cS G k N x) F H q→∀ {env A σ Q} {E:Value→Shared→Prop},Sit w.params h₀ k env A F σ H→SatF w.params h₀ k env σ F.d q Q→wpAny (model prog w) A (exec x env) Q E σ.s
 whl:∀ {N k x bs F H q},r.whl (cX G 20 k x) (bs.map (cS G k N)) F H q→∀ {env A σ Q} {E:Value→Shared→Prop},Sit w.params h₀ k env A F σ H→SatF w.params h₀ k env σ F.d q Q→
  codeAny (model prog w) A (.whileLoop x bs [] env) (fun r s'=>match r with | .ok f=>Q f s' | .error e=>E e s') σ.s
 keep:∀ {d f as H q},r.call d f as H q→∀ {P:Fz} {φ:Phi} {h:Heap} {fu:Value},Kept h₀ h→TR w.params P φ f fu→eS prog w h fu
 call:∀ {d f as H q},r.call d f as H q→∀ {A σ Q} {E:Value→Shared→Prop} {fu us},Room A d→TR w.params σ.P σ.φ f fu→TRs w.params σ as us→Ok w.params h₀ σ H→Sat w.params h₀ σ q Q→wpAny (model prog w) A (call fu us) Q E σ.s
end
section
variable {prog:Program} {w:World} {h₀:Heap} {G:Nat→Option C} {T:Tb} {r:Rec} (S:Snd prog w h₀ G r)
variable {k:Kn} {env:Env} {A:Around} {σ:Wd} {E:Value→Shared→Prop} {N:Nat} {F:Fm} {H:List O}
theorem uB {x:Expr} (h:nbX (cX G N k x)=true) (rest:List Expr):starEach (x::rest) env=(false,eval x env)::starEach rest env:=by
 rcases x with _ |_ <;> first |exact rfl | (rcases N with _ |_ <;> exact Bool.noConfusion h)
theorem lA:∀ {xs:List Expr},(xs.map (cX G N k)).all nbX=true→starEach xs env=xs.map fun x=>(false,eval x env)
 | [],_=>rfl
 |x::xs,h=>by
  rw [List.map_cons,List.all_cons,Bool.and_eq_true] at h
  rw [uB h.1,lA h.2];rfl
theorem Snd.nb (S:Snd prog w h₀ G r) {e:X} {q:KV} (h:r.ex e F H q):nbX e=true:=by
 rcases e with _ |_ <;> first |exact rfl |exact (S.bad h).elim
noncomputable def Satn (W:Params) (h₀:Heap) (σ:Wd) (n:Nat) (q:List V→List O→Prop) (Q:List Value→Shared→Prop):Prop:=∀ vs H' us σ',q vs H'→Go W h₀ bG σ σ' H'→TRs W σ' vs us→us.length=n→Q us σ'.s
include S in
theorem jA {pos:Pos}:∀ {xs:List Expr} {H q},exs r (xs.map (cX G N k)) F H q→∀ {σ Q},Sit w.params h₀ k env A F σ H→Satn w.params h₀ σ xs.length q Q→wpAny (model prog w) A (spliced (backTo pos (starEach xs env))) Q E σ.s
 | [],H,q,h,σ,Q,c,post=>args_nil (post [] _ [] σ h c.ok.go .nil rfl)
 |x::xs,H,q,h,σ,Q,c,post=>by
  exact args_cons (S.ex h c fun v H1 u σ1 h1 g1 t1=>jA h1 (c.up g1) fun vs H2 us σ2 h2 g2 t2 hl=>post (v::vs) H2 (u::us) σ2 h2 (g1.trans g2) (.cons (g2.le.tr t1) t2) (congrArg (·+1) hl)) (uB (S.nb h) xs)
end
set_option backward.match.sparseCases true
set_option backward.match.sparseCases false
theorem gU {W:Params} {h₀:Heap} {σ:Wd} {H:List O} (k:Ok W h₀ σ H) {v:V} {u:Value} (t:TR W σ.P σ.φ v u) {c:C} (e:view H v=some c):TopR W σ.P σ.h c u:=by
 cases v with
 |c x=>exact Option.some.inj e ▸ TopR.of k.inh t
 |t l=>cases e
 |r n=>
  obtain ⟨p,hp,rfl⟩:=t
  obtain ⟨o,ho,rfl⟩:=Option.map_eq_some_iff.mp e
  cases k.obj hp ho with
  |lst g r=>exact ⟨_,_,_,_,rfl,g,rfl,rfl,r⟩
  |dcs g ne r=>exact ⟨_,_,_,rfl,g,ne,r⟩
  |ins g g' ne r=>exact ⟨_,_,_,_,_,rfl,g,g',r⟩
theorem r7 {W:Params} {h₀:Heap} {σ:Wd} {H:List O} (k:Ok W h₀ σ H) {vs:List V} {us:List Value} (t:TRs W σ vs us):∀ {cs:List C},vs.mapM (view H)=some cs→Tops (TopR W σ.P σ.h) cs us:=by
 induction t with
 |nil=>intro cs e;cases e;exact .nil
 | @cons v u vs us a b ih=>
  intro cs e
  rw [List.mapM_cons] at e
  obtain ⟨c,e1,e⟩:=bM e
  obtain ⟨cs',e2,e⟩:=bM e
  cases e
  exact .cons (gU k a e1) (ih e2)
theorem lB {W:Params} {h₀:Heap} {σ:Wd} {H:List O} (k:Ok W h₀ σ H) {q:KV} {x:C} (h:q (.c x) H) {Q:Value→Shared→Prop} (post:Sat W h₀ σ q Q):aS W σ.P σ.s x Q:=
 fun r h' tk kp sz c=>post _ H r ⟨Mk σ.P σ.h h',σ.φ,to σ.s h' tk⟩ h (k.grow kp sz) c
theorem Ok.tick {W:Params} {h₀:Heap} {σ:Wd} {H:List O} (k:Ok W h₀ σ H) (tk:Tok):Go W h₀ bG σ ⟨σ.P,σ.φ,to σ.s σ.h tk⟩ H:=k.grow0 (fun _ _ _ e=>e) (fun _ q=>q.elim) (Nat.le_refl _)
section
variable {prog:Program} {w:World} {h₀:Heap} {G:Nat→Option C} {T:Tb} {r:Rec} (S:Snd prog w h₀ G r) (B:Base prog w h₀ G) (K:Op1 prog w h₀ T)
variable {k:Kn} {env:Env} {A:Around} {σ:Wd} {E:Value→Shared→Prop} {N:Nat} {F:Fm} {H:List O} {q:KV} {Q:Value→Shared→Prop} {pos:Pos}
theorem gXE {b:Bool} {e:X} {g:Prop} (h:cU T r (gX b e) F H q) (f:b=true→cU T r e F H q→g):g:=by
 cases b
 ·exact h.elim
 ·exact f rfl h
theorem MV {n:Nat} {c:Const} (h:cU T r (cC c) F H q) (s:Sit w.params h₀ k env A F σ H) (post:Sat w.params h₀ σ q Q):wpAny (model prog w) A (eval (.Constant c n pos) env) Q E σ.s:=by
 cases c
 case none=>exact fun _ _ _=>post _ _ .none _ h s.ok.go rfl
 case bool b=>exact fun _ _ _=>post _ _ (.bool b) _ h s.ok.go rfl
 case int i=>exact fun _ _ _=>post _ _ (.int i σ.s.toks) _ h (s.ok.tick (σ.s.toks+1)) ⟨_,rfl⟩
 case str i=>exact fun _ _ _=>post _ _ (.str i σ.s.toks) _ h (s.ok.tick (σ.s.toks+1)) ⟨_,_,rfl,rfl⟩
 case bytes i=>exact fun _ _ _=>post _ _ (.bytes _ σ.s.toks) _ h (s.ok.tick (σ.s.toks+1)) ⟨_,_,rfl,rfl⟩
 all_goals exact h.elim
theorem MW {x:Str} (ok:a6 x=true) (hk:(nkL (k x) || nkF (k x))=true) {v:V} (hv:lk F.vs (enc x)=some v) (h:q v H) (s:Sit w.params h₀ k env A F σ H) (post:Sat w.params h₀ σ q Q):wpAny (model prog w) A (eval (.Name x pos) env) Q E σ.s:=by
 refine wpAny_Name ?_ (bP ok).2.1
 have fin:∀ {u:Option Value},VR w.params σ v u→∃ y,u=some y∧Q y σ.s:=fun ⟨y,e,t⟩=>⟨y,e,post v H y σ h s.ok.go t⟩
 have cel:nkF (k x)=true→(env.kindOf x=some .cell∨env.kindOf x=some .free)→wpAny (model prog w) A (loadName env x) Q E σ.s:=fun hk hc=>by
  obtain ⟨c,u,e,i,t⟩:=s.fr.cell x hk
  obtain ⟨y,rfl,p⟩:=fin (t ok v hv)
  rcases hc with hc |hc
  ·exact wpAny_loadName_cell s.fr.st.kind hc e i p
  ·exact wpAny_loadName_free s.fr.st.kind hc e i p (bP ok).2.2.1
 cases e:k x with
 |none=>rw [e] at hk;cases hk
 |some kd=>
  rw [e] at hk
  cases kd <;> first |cases hk |skip
  ·obtain ⟨m,hn,g⟩:=s.fr.ns
   obtain ⟨y,hy,p⟩:=fin (g x ok e v hv)
   exact wpAny_loadName_local s.fr.st.kind (s.fr.st.kl _ e) hn hy p
  ·exact cel (e ▸ rfl) (.inl (s.fr.st.kc _ e))
  ·exact cel (e ▸ rfl) (s.fr.st.kf _ e)
theorem G1 {a:Option NameKind} (h:nkG a=true):a=some .globalImplicit:=by
 cases a with
 |none=>cases h
 |some kd=>cases kd <;> first |rfl |cases h
include B in
theorem KH {x:Str} (h:cU T r (cN G k x) F H q) (s:Sit w.params h₀ k env A F σ H) (post:Sat w.params h₀ σ q Q):wpAny (model prog w) A (eval (.Name x pos) env) Q E σ.s:=by
 refine gXE h fun ok h=> ?_
 cases hk:nkL (k x) || nkF (k x)
 ·rw [hk] at h
  cases hg:nkG (k x)
  ·rw [hg] at h;exact h.elim
  ·rw [hg] at h
   cases g:G (enc x) with
   |none=>rw [g] at h;exact h.elim
   |some c=>
    rw [g] at h
    exact Name_function_global s.fr.st.kind (s.fr.st.kg _ (G1 hg)) (B.glob ok g s.fr.st.glo s.fr.st.blt s.kept fun v hv=>post _ _ v σ h s.ok.go (b9 s.ok.old _ _ hv)) (bP ok).2.1
 ·rw [hk] at h
  exact ooE h fun v hv h=>MW ok hk hv h s post
theorem r8 {α:Type} {l:List α} (h:few l=true):l.length≤sizeLine:=Nat.le_trans (Nat.le_of_ble_eq_true h) (by rw [sizeLine_eq];decide)
theorem yA {W:Params} {P:Fz} {φ:Phi} {vs:List V} {v:V} (hv:tB vs=some v) {us:List Value} (t:Tops (TR W P φ) vs us) {u:Value} {a:Addr} {o:Obj} {n:Nat} (e:u= .ref a) (p:P a o) (hc:(o.cls,o.dict)=(.type "tuple",none)) (hd:o.data= .seq us.toArray n):TR W P φ v u:=by
 unfold tB at hv
 cases ha:eO vs with
 |some cs=>
  rw [ha] at hv;cases hv
  exact ⟨a,o,us.toArray,n,e,p,hc,hd,eW t ha⟩
 |none=>
  rw [ha] at hv
  cases hn:noT vs with
  |false=>rw [hn] at hv;cases hv
  |true=>
   rw [hn] at hv;cases hv
   refine ⟨a,o,us.toArray,n,e,p,hc,hd,?_⟩
   clear ha hd
   show Tops _ vs us
   induction t with
   |nil=>exact .nil
   | @cons v u vs us a b ih=>
    cases v with
    |c x=>exact .cons a (ih hn)
    |r n=>exact .cons a (ih hn)
    |t l=>cases hn
include S in
theorem MX {es:List Expr} {n:Nat} (h:cU T r (gX (few es) (.tup (es.map (cX G N k)))) F H q) (s:Sit w.params h₀ k env A F σ H) (post:Sat w.params h₀ σ q Q):wpAny (model prog w) A (eval (.Tuple es n pos) env) Q E σ.s:=
 gXE h fun hf h=>wpAny_Tuple (jA S h s fun vs H1 us σ1 h g t hl=>ooE h fun v hv h=>
  ⟨hl ▸ r8 hf,post v H1 _ ⟨_,_,to σ1.s _ σ1.s.toks⟩ h (g.trans (g.ok.grow (a8 _) (aU _))) (yA hv (t.imp (oD (fun _ _=>.inl) fun _ _ e=>e)) rfl (gK rfl) rfl rfl)⟩)
include S in
theorem MY {es:List Expr} (h:cU T r (gX (few es) (.lst (es.map (cX G N k)))) F H q) (s:Sit w.params h₀ k env A F σ H) (post:Sat w.params h₀ σ q Q):wpAny (model prog w) A (eval (.List es pos) env) Q E σ.s:=
 gXE h fun hf h=>wpAny_List (jA S h s fun vs H1 us σ1 h g t hl=>ooE h fun cs hv h=>
  ⟨hl ▸ r8 hf,post (.c (.lst cs)) H1 _ ⟨_,_,to σ1.s _ σ1.s.toks⟩ h (g.trans (g.ok.grow (a8 _) (aU _))) ⟨_,_,us.toArray,_,rfl,gK rfl,rfl,rfl,bW (fun _ _=>.inl) _ _ (eW t hv)⟩⟩)
include S K in
theorem MZ {op:Operator} {a b:Expr} (h:cU T r (.bin op (cX G N k a) (cX G N k b)) F H q) (s:Sit w.params h₀ k env A F σ H) (post:Sat w.params h₀ σ q Q):wpAny (model prog w) A (eval (.BinOp a op b pos) env) Q E σ.s:=
 wpAny_BinOp (S.ex h s fun v H1 u σ1 h g1 t1=>S.ex h (s.up g1) fun v' H2 u' σ2 h g2 t2=>ooE h fun x hx h=>by
  obtain ⟨ca,e1,hx⟩:=bM hx
  obtain ⟨cb,e2,hx⟩:=bM hx
  obtain ⟨y,hy,rfl⟩:=Option.map_eq_some_iff.mp hx
  exact K.bin hy s.rm.u g2.ok.kept g2.ok.inh (gU g2.ok (g2.le.tr t1) e1) (gU g2.ok t2 e2) (lB g2.ok h fun v H' u σ' h g=>post v H' u σ' h ((g1.trans g2).trans g)))
include S K in
theorem M0 {e:Expr} (h:cU T r (.neg (cX G N k e)) F H q) (s:Sit w.params h₀ k env A F σ H) (post:Sat w.params h₀ σ q Q):wpAny (model prog w) A (eval (.UnaryOp .USub e pos) env) Q E σ.s:=by
 rw [arm_eval_UnaryOp]
 refine wpAny_bind (S.ex h s fun v H1 u σ1 h g t=>kCE h fun c e h=>ooE h fun i e' h=> ?_)
 subst e;cases gA e'
 obtain ⟨t,rfl⟩:=t
 exact wpAny_bind (wpAny_standAt (wpAny_holding (K.neg fun tk tk'=>post _ H1 _ _ h (g.trans (g.ok.tick tk')) ⟨tk,rfl⟩)))
theorem KI {b:Bool} {p p' g:Prop} (h:cond b p p') (f:b=true→p→g) (f':b=false→p'→g):g:=by
 cases b
 ·exact f' rfl h
 ·exact f rfl h
include S in
theorem M1 {t a b:Expr} (h:cU T r (.ite (cX G N k t) (cX G N k a) (cX G N k b)) F H q) (s:Sit w.params h₀ k env A F σ H) (post:Sat w.params h₀ σ q Q):wpAny (model prog w) A (eval (.IfExp t a b pos) env) Q E σ.s:=by
 rw [arm_eval_IfExp]
 refine wpAny_bind (S.ts h s fun b H1 σ1 h g=> ?_)
 cases b <;> exact S.ex h (s.up g) fun v H2 u σ2 h g2 t=>post v H2 u σ2 h (g.trans g2) t
include S in
theorem M2 {t a b:Expr} {q:KB} {Q:Bool→Shared→Prop} {whole:Sem Value} (h:fJ r (.ite (cX G N k t) (cX G N k a) (cX G N k b)) F H q) (s:Sit w.params h₀ k env A F σ H) (post:oE w.params h₀ σ q Q):wpAny (model prog w) A (isTrue (.IfExp t a b pos) env whole) Q E σ.s:=by
 rw [arm_isTrue_IfExp]
 refine wpAny_bind (S.ts h s fun b H1 σ1 h g=> ?_)
 cases b <;> exact S.ts h (s.up g) fun v H2 σ2 h g2=>post v H2 σ2 h (g.trans g2)
theorem uC {o:Expr} {n:Str} (h:iW o=true) {whole:Sem Value}:attributeBase o n env whole=whole:=by
 rcases o with _ |_ <;> first |exact rfl |skip
 rename_i f as ks p
 rcases f with _ |_ <;> first |exact rfl |skip
 rename_i i p'
 rcases as with _ |_
 ·rcases ks with _ |_
  ·have:(i !=("super":Str))=true:=(congrArg (!·) (bP (x:=i) ((Bool.or_eq_true _ _).mp h |>.elim id nofun)).2.2.2)
   exact if_pos (by rw [this];rfl)
  ·rfl
 ·rfl
end
set_option backward.match.sparseCases true
section
variable {prog:Program} {w:World} {h₀:Heap} {G:Nat→Option C} {T:Tb} {r:Rec} (S:Snd prog w h₀ G r) (B:Base prog w h₀ G) (K:Op1 prog w h₀ T)
variable {k:Kn} {env:Env} {A:Around} {σ:Wd} {E:Value→Shared→Prop} {N:Nat} {F:Fm} {H:List O} {q:KV} {Q:Value→Shared→Prop} {pos:Pos}
theorem CW {W:Params} {a:V} {i:Bool} (h:isNone a=some i) {u:Value} (t:TR W σ.P σ.φ a u):(u == .none)=i:=by
 cases a with
 |t l=>exact nn h
 |r n=>
  obtain ⟨_,_,rfl⟩:=t
  exact Option.some.inj h
 |c a=>
  cases a with
  |none=>subst t;exact Option.some.inj h
  |bool _=>subst t;exact Option.some.inj h
  |int _=>obtain ⟨_,rfl⟩:=t;exact Option.some.inj h
  |str _=>obtain ⟨_,_,rfl,_⟩:=t;exact Option.some.inj h
  |byt _=>obtain ⟨_,_,rfl,_⟩:=t;exact Option.some.inj h
  |tup _=>obtain ⟨_,_,_,_,rfl,_⟩:=t;exact Option.some.inj h
  |lst _=>obtain ⟨_,_,_,_,rfl,_⟩:=t;exact Option.some.inj h
  |rng _ _ _=>obtain ⟨_,_,_,_,rfl,_⟩:=t;exact Option.some.inj h
  |dcs _=>obtain ⟨_,_,_,rfl,_⟩:=t;exact Option.some.inj h
  |dci _=>obtain ⟨_,_,_,rfl,_⟩:=t;exact Option.some.inj h
  |ins _ _=>obtain ⟨_,_,_,_,_,rfl,_⟩:=t;exact Option.some.inj h
  |obj _=>subst t;exact Option.some.inj h
  |typ _=>subst t;exact Option.some.inj h
  |blt _=>subst t;exact Option.some.inj h
theorem qG {v:V} (h:wT v=true):v= .c .none:=by
 rcases v with x |_ |_
 ·rcases x with _ |_ <;> first |exact rfl |exact Bool.noConfusion h
 ·exact Bool.noConfusion h
 ·exact Bool.noConfusion h
include K in
theorem oF {op:CmpOp} {a b:V} {t:Bool} (h:jS H op a b=some t) {u v:Value} (ru:A.units≤9000) (ok:Ok w.params h₀ σ H) (ta:TR w.params σ.P σ.φ a u) (tb:TR w.params σ.P σ.φ b v)
  (post:∀ σ',Go w.params h₀ bG σ σ' H→Q (.bool t) σ'.s):wpAny (model prog w) A (compareOp op u v) Q E σ.s:=by
 have main:((view H a).bind fun x=>(view H b).bind fun y=>BJ op x y)=some t→wpAny (model prog w) A (compareOp op u v) Q E σ.s:=fun h=>by
  obtain ⟨x,hx,h⟩:=bM h
  obtain ⟨y,hy,h⟩:=bM h
  exact K.cmp h ru ok.kept ok.inh (gU ok ta hx) (gU ok tb hy) fun h' tk kp sz=>post _ (ok.grow kp sz)
 have is:∀ {p:Bool},cond (wT b) ((isNone a).map (· == p)) none=some t→v= .none∧((u == .none) == p)=t:=fun {p} h=>by
  cases hb:wT b with
  |false=>rw [hb] at h;exact nn h
  |true=>
   rw [hb] at h
   obtain ⟨i,hi,rfl⟩:=Option.map_eq_some_iff.mp h
   cases qG hb
   exact ⟨tb,by rw [CW hi ta]⟩
 have q:=post σ ok.go
 cases op with
 |Is=>
  obtain ⟨rfl,e⟩:=is h
  rw [← e] at q
  exact is_none (by rw [show (u == .none)=((u == .none) == true) by cases u == .none <;> rfl];exact q)
 |IsNot=>
  obtain ⟨rfl,e⟩:=is h
  rw [← e] at q
  exact isNot_none (by rw [show (!(u == .none))=((u == .none) == false) by cases u == .none <;> rfl];exact q)
 |_=>exact main h
theorem gL:∀ {ops:List CmpOp} {xs:List Expr},(xs.all fun e=> !s9 e)=true→markedEach ops xs (evalEach xs env)=evalEach xs env
 | [],_,_=>rfl
 |_::ops,[],_=>by cases ops <;> rfl
 |op::ops,x::xs,h=>by
  rw [List.all_cons,Bool.and_eq_true] at h
  cases ops with
  |cons op' ops=>exact congrArg (eval x env::·) (gL h.2)
  |nil=>
   cases xs with
   |cons y ys=>exact congrArg (eval x env::·) (gL h.2)
   |nil=>
    refine congrArg (fun y:Sem Value=>[y]) (markedBehindIn_of_false ?_)
    cases x <;> first |rfl |cases h.1
include S K in
theorem mT:∀ {ops:List CmpOp} {xs:List Expr} {l:V} {H:List O} {q:KB},chain r ops l (xs.map (cX G N k)) F H q→∀ {σ u},TR w.params σ.P σ.φ l u→Sit w.params h₀ k env A F σ H→oE w.params h₀ σ q (fun b=>Q (.bool b))→
  wpAny (model prog w) A (compareChain pos u ops (evalEach xs env)) Q E σ.s
 | [],_,_,_,_,h,_,_,_,_,_=>h.elim
 |_::_,[],_,_,_,h,_,_,_,_,_=>h.elim
 |op::ops,x::xs,l,H,q,h,σ,u,tl,c,post=>by
  have step1:∀ {f:Value→Sem Value},(∀ v H1 rv σ1,oo (jS H1 op l v) (fun b=>cond ops.isEmpty (kB (xs.map (cX G N k)).isEmpty (q b H1)) (cond b (chain r ops v (xs.map (cX G N k)) F H1 q) (q false H1)))→Go w.params h₀ bG σ σ1 H1→TR w.params σ1.P σ1.φ v rv→wpAny (model prog w) A (f rv) Q E σ1.s)→
   wpAny (model prog w) A (holding [u] (eval x env) >>=f) Q E σ.s:=fun hf=>wpAny_bind (wpAny_holding (S.ex h c hf))
  cases ops with
  |nil=>
   cases xs with
   |cons=>exact step1 fun v H1 rv σ1 h g1 t1=>ooE h fun _ _ h=>h.elim
   |nil=>
    exact step1 fun v H1 rv σ1 h g1 t1=>ooE h fun b hb h=>wpAny_bind (wpAny_standAt (wpAny_operateT (oF K hb c.rm.u g1.ok (g1.le.tr tl) t1 fun σ2 g2=>post b H1 σ2 h (g1.trans g2))))
  |cons op' ops=>
   refine step1 (f:=fun rv=>do
    standAt pos
    let c ← holding [u,rv] (compareOp op u rv)
    release [u,rv] [c]
    if ← holding [c,rv] (truthy c) then compareChain pos rv (op'::ops) (evalEach xs env) else pure c) fun v H1 rv σ1 h g1 t1=>ooE h fun b hb h=> ?_
   refine wpAny_bind (wpAny_standAt (wpAny_bind (wpAny_holding (oF K hb c.rm.u g1.ok (g1.le.tr tl) t1 fun σ2 g2=> ?_))))
   refine wpAny_bind (wpAny_release (wpAny_bind (wpAny_holding (wpAny_truthy_bool ?_))))
   cases b with
   |true=>exact mT h (g2.le.tr t1) (c.up (g1.trans g2)) fun b H3 σ3 h g3=>post b H3 σ3 h ((g1.trans g2).trans g3)
   |false=>exact wpAny_pure (post false H1 σ2 h (g1.trans g2))
include S K in
theorem lC {QB:Bool→Shared→Prop}:∀ {ops:List CmpOp} {xs:List Expr} {l:V} {H:List O} {q:KB},chain r ops l (xs.map (cX G N k)) F H q→∀ {σ u},TR w.params σ.P σ.φ l u→Sit w.params h₀ k env A F σ H→oE w.params h₀ σ q QB→
  wpAny (model prog w) A (testChain pos u ops (evalEach xs env)) QB E σ.s
 | [],_,_,_,_,h,_,_,_,_,_=>h.elim
 |_::_,[],_,_,_,h,_,_,_,_,_=>h.elim
 |op::ops,x::xs,l,H,q,h,σ,u,tl,c,post=>by
  have step1:∀ {f:Value→Sem Bool},(∀ v H1 rv σ1,oo (jS H1 op l v) (fun b=>cond ops.isEmpty (kB (xs.map (cX G N k)).isEmpty (q b H1)) (cond b (chain r ops v (xs.map (cX G N k)) F H1 q) (q false H1)))→Go w.params h₀ bG σ σ1 H1→TR w.params σ1.P σ1.φ v rv→wpAny (model prog w) A (f rv) QB E σ1.s)→
   wpAny (model prog w) A (holding [u] (eval x env) >>=f) QB E σ.s:=fun hf=>wpAny_bind (wpAny_holding (S.ex h c hf))
  cases ops with
  |nil=>
   cases xs with
   |cons=>exact step1 fun v H1 rv σ1 h g1 t1=>ooE h fun _ _ h=>h.elim
   |nil=>
    exact step1 fun v H1 rv σ1 h g1 t1=>ooE h fun b hb h=>wpAny_bind (wpAny_standAt (wpAny_bind (wpAny_operateT (oF K hb c.rm.u g1.ok (g1.le.tr tl) t1 fun σ2 g2=>wpAny_holding (wpAny_truthy_bool (post b H1 σ2 h (g1.trans g2)))))))
  |cons op' ops=>
   refine step1 (f:=fun rv=>do
    standAt pos
    let c ← holding [u,rv] (compareOp op u rv)
    release [u,rv] [c]
    if ← holding [c,rv] (truthy c) then testChain pos rv (op'::ops) (evalEach xs env) else pure false) fun v H1 rv σ1 h g1 t1=>ooE h fun b hb h=> ?_
   refine wpAny_bind (wpAny_standAt (wpAny_bind (wpAny_holding (oF K hb c.rm.u g1.ok (g1.le.tr tl) t1 fun σ2 g2=> ?_))))
   refine wpAny_bind (wpAny_release (wpAny_bind (wpAny_holding (wpAny_truthy_bool ?_))))
   cases b with
   |true=>exact lC h (g2.le.tr t1) (c.up (g1.trans g2)) fun b H3 σ3 h g3=>post b H3 σ3 h ((g1.trans g2).trans g3)
   |false=>exact wpAny_pure (post false H1 σ2 h (g1.trans g2))
include S K in
theorem M3 {a:Expr} {ops:List CmpOp} {xs:List Expr} (h:cU T r (gX (xs.all fun e=> !s9 e) (.cmp (cX G N k a) ops (xs.map (cX G N k)))) F H q) (s:Sit w.params h₀ k env A F σ H) (post:Sat w.params h₀ σ q Q):wpAny (model prog w) A (eval (.Compare a ops xs pos) env) Q E σ.s:=by
 rw [arm_eval_Compare]
 refine gXE h fun hn h=> ?_
 rw [gL hn]
 exact wpAny_bind (S.ex h s fun v H1 u σ1 h g1 t1=>mT S K h t1 (s.up g1) fun b H2 σ2 h g2=>post (.c (.bool b)) H2 (.bool b) σ2 h (g1.trans g2) rfl)
theorem gXT {b:Bool} {e:X} {g:Prop} {q:KB} (S:Snd prog w h₀ G r) (h:fJ r (gX b e) F H q) (f:b=true→fJ r e F H q→g):g:=by
 cases b
 ·exact (S.bad h).elim
 ·exact f rfl h
include S K in
theorem M4 {a:Expr} {ops:List CmpOp} {xs:List Expr} {q:KB} {Q:Bool→Shared→Prop} {whole:Sem Value} (h:fJ r (gX (xs.all fun e=> !s9 e) (.cmp (cX G N k a) ops (xs.map (cX G N k)))) F H q) (s:Sit w.params h₀ k env A F σ H) (post:oE w.params h₀ σ q Q):
  wpAny (model prog w) A (isTrue (.Compare a ops xs pos) env whole) Q E σ.s:=by
 rw [arm_isTrue_Compare]
 refine gXT S h fun hn h=> ?_
 rw [gL hn]
 exact wpAny_bind (S.ex h s fun v H1 u σ1 h g1 t1=>lC S K h t1 (s.up g1) fun b H2 σ2 h g2=>post b H2 σ2 h (g1.trans g2))
include K in
theorem yB {v:V} {b:Bool} (h:BN H v=some b) {u:Value} (ok:Ok w.params h₀ σ H) (t:TR w.params σ.P σ.φ v u) {Q:Bool→Shared→Prop} (post:∀ σ',Go w.params h₀ bG σ σ' H→Q b σ'.s):wpAny (model prog w) A (truthy u) Q E σ.s:=by
 cases v with
 |c x=>
  cases x with
  |bool y=>cases h;subst t;exact wpAny_truthy_bool (post σ ok.go)
  |lst l=>
   cases hl:Nat.ble l.length lim with
   |false=>replace h:cond (Nat.ble l.length lim) (some (!l.isEmpty)) none=some b:=h;rw [hl] at h;exact nn h
   |true=>
    replace h:cond (Nat.ble l.length lim) (some (!l.isEmpty)) none=some b:=h
    rw [hl] at h;cases h
    exact K.tru (Nat.le_of_ble_eq_true hl) ok.kept ok.inh (TopR.of ok.inh t) fun h' tk kp sz=>post _ (ok.grow kp sz)
  |_=>exact nn h
 |_=>exact nn h
include S in
theorem r9 {op:BoolOp} {Q:Bool→Shared→Prop}:∀ {xs:List Expr} {H:List O} {q:KB},tss r (tA op) (xs.map (cX G N k)) F H q→∀ {σ},Sit w.params h₀ k env A F σ H→oE w.params h₀ σ q Q→wpAny (model prog w) A (allTrue op xs env) Q E σ.s
 | [],H,q,h,σ,c,post=>by cases op <;> exact wpAny_pure (post _ H σ h c.ok.go)
 |x::xs,H,q,h,σ,c,post=>by
  cases op
  ·refine wpAny_allTrue_And_cons (S.ts h c fun b H1 σ1 h g1=> ?_)
   cases b
   ·exact post false H1 σ1 h g1
   ·exact r9 h (c.up g1) fun b H2 σ2 h g2=>post b H2 σ2 h (g1.trans g2)
  ·refine wpAny_allTrue_Or_cons (S.ts h c fun b H1 σ1 h g1=> ?_)
   cases b
   ·exact r9 h (c.up g1) fun b H2 σ2 h g2=>post b H2 σ2 h (g1.trans g2)
   ·exact post true H1 σ1 h g1
include S K in
theorem oG {op:BoolOp}:∀ {xs:List Expr} {H:List O} {q:KV},bops r (tA op) (xs.map (cX G N k)) F H q→∀ {σ},Sit w.params h₀ k env A F σ H→Sat w.params h₀ σ q Q→wpAny (model prog w) A (boolOp pos op (evalEach xs env)) Q E σ.s
 | [],H,q,h,σ,c,post=>h.elim
 | [x],H,q,h,σ,c,post=>S.ex h c post
 |x::x'::xs,H,q,h,σ,c,post=>by
  show wpAny _ _ (do
   let v ← eval x env
   standAt pos
   let t ← holding [v] (truthy v)
   match op,t with
   | .And,false | .Or,true=>pure v
   |_,_=>boolOp pos op (evalEach (x'::xs) env)) _ _ _
  refine wpAny_bind (S.ex h c fun v H1 u σ1 h g1 t1=>ooE h fun b hb h=>wpAny_bind (wpAny_standAt (wpAny_bind (wpAny_holding (yB K hb g1.ok t1 fun σ2 g2=> ?_)))))
  have stop:q v H1→wpAny (model prog w) A (pure u) Q E σ2.s:=fun h=>wpAny_pure (post v H1 u σ2 h (g1.trans g2) (g2.le.tr t1))
  have go:bops r (tA op) ((x'::xs).map (cX G N k)) F H1 q→wpAny (model prog w) A (boolOp pos op (evalEach (x'::xs) env)) Q E σ2.s:=fun h=>oG h (c.up (g1.trans g2)) fun v H3 u σ3 h g3=>post v H3 u σ3 h ((g1.trans g2).trans g3)
  cases op <;> cases b <;> first |exact go h |exact stop h
end
section
variable {prog:Program} {w:World} {h₀:Heap} {G:Nat→Option C} {T:Tb} {r:Rec} (S:Snd prog w h₀ G r) (B:Base prog w h₀ G) (K:Op1 prog w h₀ T) (L:Op2 prog w h₀) (D5:Op5 prog w)
variable {k:Kn} {env:Env} {A:Around} {σ:Wd} {E:Value→Shared→Prop} {N:Nat} {F:Fm} {H:List O} {q:KV} {Q:Value→Shared→Prop} {pos:Pos}
theorem TR.c {W:Params} {P:Fz} {φ:Phi} {v:V} {u:Value} (t:TR W P φ v u) {x:C} (e:v= .c x):CR W P x u:=by subst e;exact t
theorem TR.rf {W:Params} {P:Fz} {φ:Phi} {v:V} {u:Value} (t:TR W P φ v u) {n:Nat} (e:v= .r n):RefAt φ n u:=by subst e;exact t
theorem qH {c:C} {p:Nat × List (Nat × C)} (h:BM c=some p):c= .ins p.1 p.2:=by rcases c with _ |_ <;> first |exact nn h |exact Option.some.inj h ▸ rfl
theorem lD {o:Expr} {u:Value} {x:C} (ok:Ok w.params h₀ σ H) (h:q (.c x) H) (post:Sat w.params h₀ σ q Q):aS w.params σ.P σ.s x fun rv s'=>wpAny (model prog w) A (do letTemporaryGo o u rv;pure rv) Q E s':=
 lB ok h fun v H' u σ' h g t=>wpAny_bind (wpAny_letTemporaryGo (wpAny_pure (post v H' u σ' h g t)))
theorem Sat.of {σ':Wd} {H':List O} (g:Go w.params h₀ bG σ σ' H') (post:Sat w.params h₀ σ q Q):Sat w.params h₀ σ' q Q:=fun v H u σ2 h g2 t=>post v H u σ2 h (g.trans g2) t
include S K in
theorem M5 {o:Expr} {n:Str} (h:cU T r (gX (iW o && a6 n) (.atr (cX G N k o) (enc n))) F H q) (s:Sit w.params h₀ k env A F σ H) (post:Sat w.params h₀ σ q Q):wpAny (model prog w) A (eval (.Attribute o n pos) env) Q E σ.s:=by
 refine gXE h fun hn h=> ?_
 rw [Bool.and_eq_true] at hn
 rw [arm_eval_Attribute,uC hn.1]
 refine wpAny_bind (S.ex h s fun v H1 u σ1 h g1 t1=>wpAny_bind (wpAny_standAt (wpAny_bind (wpAny_holding (ooE h fun p hp h=>kBE h fun hk h=>ooE h fun x hx h=> ?_)))))
 obtain ⟨c,hc,e⟩:=bM hp
 cases qH e
 have:=K.atr hk hx (A:=A) (E:=E) g1.ok.kept g1.ok.inh (gU g1.ok t1 hc) (lD (prog:=prog) (A:=A) (E:=E) (o:=o) (u:=u) g1.ok h (post.of g1))
 rwa [(bP hn.2).1] at this
include S in
theorem KJ {e:Option Expr} (h:r.ex (oX (cX G N k) e) F H q) (s:Sit w.params h₀ k env A F σ H) (post:Sat w.params h₀ σ q Q):wpAny (model prog w) A (valueOrNone (evalOpt e env)) Q E σ.s:=by
 cases e with
 |none=>exact wpAny_pure (post _ H .none σ (S.con h) s.ok.go rfl)
 |some e=>exact S.ex h s post
include S K in
theorem M6 {o i:Expr} (hi:∀ p u v,subscripted i p u v=(match p with
   |true=>runValue (.builtin "lifetime.subscript" ⟨[u,v],[]⟩)
   |false=>operate [u,v] (getItem u v))) (h:cU T r (.idx (cX G N k o) (cX G N k i)) F H q) (s:Sit w.params h₀ k env A F σ H) (post:Sat w.params h₀ σ q Q):wpAny (model prog w) A (eval (.Subscript o i pos) env) Q E σ.s:=by
 rw [arm_eval_Subscript]
 refine wpAny_bind (S.ex h s fun vo H1 u σ1 h1 g1 t1=>wpAny_bind (wpAny_holding (S.ex h1 (s.up g1) fun vi H2 u' σ2 h2 g2 t2=>wpAny_bind (wpAny_standAt (kCE h2 fun ci hc h3=>ooE h3 fun co hv h4=>ooE h4 fun x hx hq=> ?_)))))
 have:=wpAny_bind (K.idx (A:=A) (E:=E) hx g2.ok.kept g2.ok.inh (gU g2.ok (g2.le.tr t1) hv) (t2.c hc) (lD (prog:=prog) (A:=A) (E:=E) (o:=o) (u:=u) g2.ok hq (post.of (g1.trans g2))))
 rw [bind_assoc] at this
 simp only [hi]
 exact this
include S K in
theorem M7 {o:Expr} {lo hi:Option Expr} {p:Pos} (h:cU T r (.sli (cX G N k o) (oX (cX G N k) lo) (oX (cX G N k) hi)) F H q) (s:Sit w.params h₀ k env A F σ H) (post:Sat w.params h₀ σ q Q):wpAny (model prog w) A (eval (.Subscript o (.Slice lo hi none p) pos) env) Q E σ.s:=by
 rw [arm_eval_Subscript]
 refine wpAny_bind (S.ex h s fun vo H1 u σ1 h1 g1 t1=>wpAny_bind (wpAny_holding ?_))
 show wpAny _ _ (do
  let l ← valueOrNone (evalOpt lo env)
  let u ← holding [l] (valueOrNone (evalOpt hi env))
  let s ← holding [l,u] (pure Value.none)
  newFields "slice" [l,u,s]) _ _ _
 refine wpAny_bind (KJ S h1 (s.up g1) fun va H2 ua σ2 h2 g2 t2=>kCE h2 fun a ha h3=>wpAny_bind (wpAny_holding (KJ S h3 (s.up (g1.trans g2)) fun vb H3 ub σ3 h4 g3 t3=>wpAny_bind (wpAny_holding (wpAny_pure (kCE h4 fun b hb h5=>ooE h5 fun co hv h6=>ooE h6 fun x hx hq=> ?_))))))
 refine wpAny_mono (K.sli (A:=A) (E:=E) hx g3.ok.kept g3.ok.inh (gU g3.ok ((g2.trans g3).le.tr t1) hv) (g3.le.cr (t2.c ha)) (t3.c hb) (lD (prog:=prog) (A:=A) (E:=E) (o:=o) (u:=u) g3.ok hq (post.of ((g1.trans g2).trans g3)))) (fun iv s' hh=> ?_) fun _ _ z=>z
 refine wpAny_bind (wpAny_standAt ?_)
 have:=wpAny_bind hh
 rw [bind_assoc] at this
 exact this
include S K in
theorem M8 {o i:Expr} (h:cU T r (match nE i with
   |some (lo,hi,st,_)=>gX st.isNone (.sli (cX G N k o) (oX (cX G N k) lo) (oX (cX G N k) hi))
   |none=>.idx (cX G N k o) (cX G N k i)) F H q) (s:Sit w.params h₀ k env A F σ H) (post:Sat w.params h₀ σ q Q):wpAny (model prog w) A (eval (.Subscript o i pos) env) Q E σ.s:=by
 rcases i with _ |_ <;> first |exact M6 S K (fun p _ _=>Bool.rec rfl rfl p) h s post |skip
 rename_i lo hi st p
 rcases st with _ |_
 ·exact M7 S K h s post
 ·exact h.elim
theorem lE {pos:Pos}:∀ {xs:List Expr},(backTo pos (xs.map fun x=>(false,eval x env))).any (·.1)=false
 | []=>rfl
 |x::xs=>(Bool.false_or _).trans (lE (xs:=xs))
theorem qI {pos:Pos}:∀ {xs:List Expr},(backTo pos (xs.map fun x=>(false,eval x env))).all (fun x=> !x.1)=true
 | []=>rfl
 |x::xs=>(Bool.true_and _).trans (qI (xs:=xs))
theorem mU {f:Value} {first:List Value} {xs:List Expr} {s:Shared} (hs:starEach xs env=xs.map fun x=>(false,eval x env))
  (h:wpAny (model prog w) A (spliced (backTo pos (starEach xs env))) (fun us s₁=>eS prog w s₁.heap f∧wpAny (model prog w) A (call f (first++us)) Q E s₁) E s):wpAny (model prog w) A (callWith pos f first (backTo pos (starEach xs env)) []) Q E s:=by
 refine callWith_of (P:=fun h=>eS prog w h f) ?_ (fun _ k=>k) ?_
 ·rw [hs,lE];rfl
 ·cases xs with
  |nil=>exact fun Γ p hΓ=>h Γ p hΓ
  |cons x xs=>rw [hs] at h ⊢;exact evalArgs_plain h
theorem iK {id:String} {h:Heap}:eS prog w h (.builtin id):=⟨.machine,.inr (.inl rfl),Looks.of_pure rfl⟩
theorem yC {o:O} {l:List C} (h:JE o=some l):o= .lst l:=by rcases o with _ |_ <;> first |exact nn h |exact congrArg _ (Option.some.inj h)
theorem Tops.one {α:Type} {R:α→Value→Prop} {l:List α} {us:List Value} (t:Tops R l us) {a:α} (e:l=[a]):∃ u,us=[u]∧R a u:=by
 subst e
 cases t with |cons x y=>cases y;exact ⟨_,rfl,x⟩
theorem OR.l {W:Params} {P:Fz} {h:Heap} {l:List C} {p:Addr × Addr} (R:OR W P h (.lst l) p):∃ ws n,h.get? p.1=some ⟨.type "list",none,.seq ws n,#[]⟩∧CRs W P l ws.toList∧∀ b,Hs p b→b=p.1:=by
 cases R with |lst g r=>exact ⟨_,_,g,r,fun _ e=>e.elim id id⟩
theorem uD {W:Params} {n:Nat} {p:Addr × Addr} (ok:Ok W h₀ σ H) (hp:σ.φ[n]? =some p) (hs:∀ b,Hs p b→b=p.1) {l:List C} (ho:H[n]? =some (.lst l)) {l':List C} {ws:Array Value} {h':Heap} {n':Nat} {tk:Tok} (g:h'.get? p.1=some ⟨.type "list",none,.seq ws n',#[]⟩) (k':∀ b,b≠p.1→h'.get? b=σ.h.get? b) (sz:h'.objs.size=σ.sz) (cr:CRs W σ.P l' ws.toList) {own:Addr→Prop}:
  Go W h₀ own σ ⟨σ.P,σ.φ,to σ.s h' tk⟩ (H.set n (.lst l')):=by
 refine ok.put hp (fun b hb=>k' b fun e=>hb (.inl e)) sz ?_
 cases ok.obj hp ho with |lst g' r=>exact .lst g cr
theorem KL (L:Op2 prog w h₀) {b:Bm} (hb:BO b=true) {n:Nat} {p:Addr × Addr} {l l':List C} {x:C} {a:Value} (ho:H[n]? =some (.lst l)) (hp:σ.φ[n]? =some p) (tx:CR w.params σ.P x a) (hl:JG b l x=some l') (hq:q (.c .none) (H.set n (.lst l'))) (ok:Ok w.params h₀ σ H) (post:Sat w.params h₀ σ q Q):
  wpAny (model prog w) A (call (.builtin b.id) [.ref p.1,a]) Q E σ.s:=by
 obtain ⟨ws,nn',g,cr,hs⟩:=(ok.obj hp ho).l
 have fin:∀ {ws':Array Value},CRs w.params σ.P l' ws'.toList→∀ h' n' tk,h'.get? p.1=some ⟨.type "list",none,.seq ws' n',#[]⟩→(∀ b,b≠p.1→h'.get? b=σ.h.get? b)→h'.objs.size=σ.sz→Q .none (to σ.s h' tk):=
  fun cr h' n' tk g' k' sz'=>post _ _ .none _ hq (uD ok hp hs ho g' k' sz' cr) rfl
 cases b <;> first |cases hb |skip
 ·obtain ⟨hz,e⟩:=ifS hl
  exact L.app (by rw [sizeLine_eq,← Array.length_toList,bV cr];exact Nat.le_trans (Nat.le_of_lt hz) (by decide)) g (fin (Array.toList_push ▸ e ▸ dB cr ⟨_,[],rfl,tx,rfl⟩))
 ·obtain ⟨xs,e,hl⟩:=bM hl
  obtain ⟨hz,e'⟩:=ifS hl
  rw [nH e] at tx
  obtain ⟨b,ob,ws',n',rfl,pb,cb,db,cr'⟩:=tx
  exact L.ext (by rw [← Array.length_toList,← Array.length_toList,bV cr,bV cr'];exact hz) g (fun e=>ok.free p.1 ⟨n,_,hp,.inl rfl⟩ ob (e ▸ pb)) (ok.inh _ _ pb) (cls1 cb) db (fin (Array.toList_append ▸ e' ▸ dB cr cr'))
theorem KM (L:Op2 prog w h₀) {b:Bm} {d:Nat} {o:V} {as:List V} (h:wW r d (.bm b) o as H q) {u:Value} {us:List Value} (ru:A.units≤9000) (ok:Ok w.params h₀ σ H) (to:TR w.params σ.P σ.φ o u) (ta:TRs w.params σ as us) (post:Sat w.params h₀ σ q Q):
  wpAny (model prog w) A (call (.builtin b.id) (u::us)) Q E σ.s:=
 KI h (fun hb h=>kRE h fun n hn h=>ooE h fun ob ho h=>ooE h fun l hl h=>ooE h fun v ha h=>kCE h fun x hx h=>ooE h fun l' hl' h=>
   let ⟨p,hp,eu⟩:=to.rf hn;let ⟨a,ea,tx⟩:=ta.one (nF ha);eu ▸ ea ▸ KL L hb (yC hl ▸ ho) hp (tx.c hx) hl' h ok post)
  fun _ h=>ooE h fun oc e1 h=>ooE h fun cs e2 h=>ooE h fun x hx h=>L.met hx ru ok.kept ok.inh (gU ok to e1) (r7 ok ta e2) (lB ok h post)
theorem mcp {o:Expr} {ap:Pos} (hp:o6 o ap pos=true):∃ p,methodCallPos true o env ap pos=pure p:=by
 unfold methodCallPos
 rcases hl:ap.endLine == pos.line with _ |_
 ·rcases o with _ |_ <;> first |exact ⟨_,rfl⟩ |exact Bool.noConfusion (hl.symm.trans hp)
 ·exact ⟨_,rfl⟩
theorem CX {f u:Value} {o:Expr} {m:Str} {ap:Pos} {xs:List Expr} (hf:few xs=true) (hp:o6 o ap pos=true) (hb:(xs.map (cX G N k)).all nbX=true)
  (gm:∀ {pl:Sem Bool} {QQ:Value × List Value→Shared→Prop},QQ (f,[u]) σ.s→wpAny (model prog w) A (getMethod u m pl) QQ E σ.s)
  (args:∀ {pos},wpAny (model prog w) A (spliced (backTo pos (starEach xs env))) (fun us s₁=>eS prog w s₁.heap f∧wpAny (model prog w) A (call f (u::us)) Q E s₁) E σ.s):
  wpAny (model prog w) A (methodCall o m ap pos env u (xs.length+([]:List Keyword).length) (backTo pos (starEach xs env)) (backToKw pos (keywordEach [] env))) Q E σ.s:=by
 have hs:=lA (env:=env) hb
 have hform:methodCallForm (xs.length+([]:List Keyword).length) (backTo pos (starEach xs env)) (backToKw pos (keywordEach [] env))=true:=by
  have:=Nat.le_of_ble_eq_true hf
  unfold methodCallForm
  rw [hs,qI]
  show (true && true && decide (xs.length+0+0 < 30))=true
  exact decide_eq_true (Nat.lt_of_le_of_lt this (by decide))
 have hc:∀ callPos,wpAny (model prog w) A (callWith callPos f [u] (backTo pos (starEach xs env)) (backToKw pos (keywordEach [] env))) Q E σ.s:=fun callPos=>by
  have:backTo pos (starEach xs env)=backTo callPos (starEach xs env):=by
   rw [hs];unfold backTo;simp
  rw [this]
  exact mU hs args
 obtain ⟨p,hp⟩:=mcp (env:=env) hp
 unfold methodCall
 rw [hform,hp]
 exact wpAny_bind (wpAny_holding (gm (wpAny_bind (wpAny_pure (hc p)))))
inductive Meth (prog:Program) (w:World) (m:Nat) (u:Value) (s:Shared) (f:Value):Prop
 |mk (h:∀ {A:Around} {E:Value→Shared→Prop} {pl:Sem Bool} {QQ:Value × List Value→Shared→Prop},QQ (f,[u]) s→wpAny (model prog w) A (getMethod u (dec m) pl) QQ E s)
include K L in
theorem yD {vo:V} {m:Nat} {g:Tg} {u:Value} (hg:tgV T vo m H=some g) (ok:Ok w.params h₀ σ H) (t:TR w.params σ.P σ.φ vo u):(∃ a,g= .fn a∧Meth prog w m u σ.s (.ref a))∨∃ b,g= .bm b∧Meth prog w m u σ.s (.builtin b.id):=by
 obtain ⟨oc,ev,hg⟩:=bM hg
 have top:=gU ok t ev
 cases ei:BM oc with
 |some p=>
  rw [ei] at hg
  rw [qH ei] at top
  replace hg:(match lk p.2 m with |some _=>none |none=>(T.me p.1 m).map Tg.fn)=some g:=hg
  cases el:lk p.2 m with
  |some x=>rw [el] at hg;exact nn hg
  |none=>
   rw [el] at hg
   obtain ⟨a,ha,e⟩:=Option.map_eq_some_iff.mp hg
   exact .inl ⟨a,e.symm,⟨fun hq=>K.gmf ha el ok.kept ok.inh top hq⟩⟩
 |none=>
  rw [ei] at hg
  replace hg:cond (FX vo) none ((dD oc m).map Tg.bm)=some g:=hg
  cases hl:FX vo with
  |true=>rw [hl] at hg;exact nn hg
  |false=>
  rw [hl] at hg
  obtain ⟨b,hb,e⟩:=Option.map_eq_some_iff.mp hg
  refine .inr ⟨b,e.symm,⟨fun hq=> ?_⟩⟩
  clear hg e ei
  by_cases hoc:∃ l,oc= .lst l
  ·obtain ⟨l,rfl⟩:=hoc
   clear top
   cases vo with
   |t _=>exact nn ev
   |c x=>cases ev;cases hl
   |r n=>
    obtain ⟨p,hp,rfl⟩:=t
    obtain ⟨ob,ho,e⟩:=Option.map_eq_some_iff.mp ev
    cases ok.obj hp ho with
    |lst gg _=>exact L.gml hb gg hq
    |dcs=>cases e
    |ins=>cases e
  ·exact L.gmb hb (fun l e=>hoc ⟨l,e⟩) ok.inh top hq
include S K L in
theorem M9 {o:Expr} {m:Str} {xs:List Expr} {ap:Pos} (nb:(xs.map (cX G N k)).all nbX=true) (h:cU T r (gX (iW o && few xs && o6 o ap pos && a6 m) (.met (cX G N k o) (enc m) (xs.map (cX G N k)))) F H q) (s:Sit w.params h₀ k env A F σ H) (post:Sat w.params h₀ σ q Q):
  wpAny (model prog w) A (eval (.Call (.Attribute o m ap) xs [] pos) env) Q E σ.s:=by
 refine gXE h fun hn h=> ?_
 rw [Bool.and_eq_true,Bool.and_eq_true,Bool.and_eq_true] at hn
 obtain ⟨⟨⟨hb,hf⟩,hp⟩,hm⟩:=hn
 rw [arm_eval_Call,uC hb]
 refine wpAny_bind (S.ex h s fun vo H1 u σ1 h g1 t1=>wpAny_bind (wpAny_standAt (ooE h fun g hg h=> ?_)))
 have fin:∀ {f:Value},Meth prog w (enc m) u σ1.s f→(∀ as us H2 σ2,wW r F.d g vo as H2 q→Go w.params h₀ bG σ1 σ2 H2→TRs w.params σ2 as us→eS prog w σ2.h f∧wpAny (model prog w) A (call f (u::us)) Q E σ2.s)→
   wpAny (model prog w) A (methodCall o m ap pos env u (xs.length+([]:List Keyword).length) (backTo pos (starEach xs env)) (backToKw pos (keywordEach [] env))) Q E σ1.s:=fun gm run=>by
  obtain ⟨gm⟩:=gm
  rw [(bP hm).1] at gm
  exact CX hf hp nb gm (jA S h (s.up g1) fun as H2 us σ2 h g2 t2 _=>run as us H2 σ2 h g2 t2)
 rcases yD K L hg g1.ok t1 with ⟨a,e,gm⟩ | ⟨b,e,gm⟩
 ·exact fin gm fun as us H2 σ2 h g2 t2=>
   have tr:TR w.params σ2.P σ2.φ (.c (.obj a)) (.ref a):=rfl
   have h':r.call F.d (.c (.obj a)) (vo::as) H2 q:=by rw [e] at h;exact h
   ⟨S.keep h' g2.ok.kept tr,S.call h' s.rm tr (.cons (g2.le.tr t1) t2) g2.ok (post.of (g1.trans g2))⟩
 ·exact fin gm fun as us H2 σ2 h g2 t2=>⟨iK,KM (d:=F.d) L (e ▸ h) s.rm.u g2.ok (g2.le.tr t1) t2 (post.of (g1.trans g2))⟩
include S in
theorem KN {f:Expr} {xs:List Expr} (hf:(s8 f).isNone=true) (nb:(xs.map (cX G N k)).all nbX=true) (h:cU T r (.cal (cX G N k f) (xs.map (cX G N k))) F H q) (s:Sit w.params h₀ k env A F σ H) (post:Sat w.params h₀ σ q Q):wpAny (model prog w) A (eval (.Call f xs [] pos) env) Q E σ.s:=
 Call_ (S.ex h s fun vf H1 u σ1 h g1 t1=>mU (lA nb) (jA S h (s.up g1) fun as H2 us σ2 h g2 t2 _=>⟨S.keep h g2.ok.kept (g2.le.tr t1),S.call h s.rm (g2.le.tr t1) t2 g2.ok (post.of (g1.trans g2))⟩))
  (by clear h;rcases f with _ |_ <;> first |exact rfl |exact Bool.noConfusion hf)
include S K L in
theorem NA {f:Expr} {xs:List Expr} {ks:List Keyword} (h:cU T r (gX (ks.isEmpty && (xs.map (cX G N k)).all nbX) (match s8 f with
   |some (o,m,ap)=>gX (iW o && few xs && o6 o ap pos && a6 m) (.met (cX G N k o) (enc m) (xs.map (cX G N k)))
   |none=>.cal (cX G N k f) (xs.map (cX G N k)))) F H q) (s:Sit w.params h₀ k env A F σ H) (post:Sat w.params h₀ σ q Q):wpAny (model prog w) A (eval (.Call f xs ks pos) env) Q E σ.s:=by
 rcases ks with _ |_
 ·refine gXE h fun nb h=> ?_
  rcases f with _ |_ <;> first |exact KN S rfl nb h s post |exact M9 S K L nb h s post
 ·exact h.elim
end
noncomputable def Fr (P:Fz) (a:Addr) (o:Obj):Fz:=fun b o'=>P b o'∨(b=a∧o'=o)
theorem yE {n m:Nat} (h:n≠m):Nat.beq n m=false:=by
 rcases q:Nat.beq n m with _ |_
 ·rfl
 ·exact absurd (Nat.eq_of_beq_eq_true q) h
theorem gV {α:Type} {p:Nat × α} {l:List (Nat × α)} {m:Nat} (h:p.1≠m):lk (p::l) m=lk l m:=by
 refine (?_:(match Nat.beq p.1 m with |true=>some p.2 |false=>lk l m)=_)
 rw [yE h]
theorem lk_self {α:Type} {n:Nat} {v:α} {l:List (Nat × α)}:lk ((n,v)::l) n=some v:=by
 refine (?_:(match Nat.beq n n with |true=>some v |false=>lk l n)=_)
 rw [Nat.beq_refl]
theorem yF {α:Type} (n:Nat) (v:α):∀ (l:List (Nat × α)) (m:Nat),lk (put n v l) m=if m=n then some v else lk l m
 | [],m=>by
  by_cases h:m=n
  ·rw [if_pos h,h];exact lk_self
  ·rw [if_neg h];exact gV fun e=>h e.symm
 |p::l,m=>by
  rw [put]
  rcases q:Nat.beq p.1 n with _ |_
  ·have ne:p.1≠n:=fun e=>by rw [e,Nat.beq_refl] at q;cases q
   by_cases h:p.1=m
   ·rw [if_neg fun e=>ne (h.trans e),← h]
    exact lk_self.trans lk_self.symm
   ·exact (gV h).trans ((yF n v l m).trans (by rw [gV h]))
  ·have e:=Nat.eq_of_beq_eq_true q
   by_cases h:m=n
   ·rw [if_pos h,h];exact lk_self
   ·rw [if_neg h,gV fun z=>h (z.symm.trans e)];exact gV fun e=>h e.symm
section
variable {prog:Program} {w:World} {h₀:Heap} {G:Nat→Option C} {T:Tb} {r:Rec} (S:Snd prog w h₀ G r) (K:Op1 prog w h₀ T) (M:Op3 prog w h₀ T) (D5:Op5 prog w)
variable {k:Kn} {env:Env} {A:Around} {σ σ':Wd} {E:Value→Shared→Prop} {N:Nat} {F:Fm} {H H':List O} {pos:Pos} {own:Addr→Prop} {W:Params} {vs:List (Nat × V)}
theorem Go.freeze (x:Go W h₀ own σ σ' H) {a:Addr} {o:Obj} (ha:σ.sz≤a) (g:σ'.h.get? a=some o) (m:¬Mu σ'.φ a):Go W h₀ own σ ⟨Fr σ'.P a o,σ'.φ,σ'.s⟩ H:=
 x.more (fun _ _=>.inl) fun b o' e=>e.imp id fun e=>by rw [e.1,e.2];exact ⟨ha,g,m⟩
theorem new1 (x:Ok W h₀ σ H):σ.sz≠1:=Nat.ne_of_gt x.low
theorem KO {q:KV} {Q:Value→Shared→Prop} (h:q (.c (.dcs [])) H) (s:Sit w.params h₀ k env A F σ H) (post:Sat w.params h₀ σ q Q):wpAny (model prog w) A (eval (.Dict [] [] pos) env) Q E σ.s:=
 wpAny_Dict_empty (post _ H _ ⟨_,_,to σ.s _ σ.s.toks⟩ h (s.ok.grow (a8 _) (aU _)) ⟨_,#[],_,rfl,gK rfl,new1 s.ok,rfl⟩)
theorem Ok.turn (x:Ok W h₀ σ H) {h':Heap} {tk:Tok} {a:Addr} (p:Prv σ a) (k:∀ b,b≠a→h'.get? b=σ.h.get? b) (sz:h'.objs.size=σ.sz) (ha:own a):Go W h₀ own σ ⟨σ.P,σ.φ,to σ.s h' tk⟩ H:=
 x.base (fun _ _ e=>e) (fun _ _ e=>.inl e) (fun b o e=>(k b fun q=>p.fz o (q ▸ e)).trans (x.inh b o e)) (fun b o m e=>(k b fun q=>p.mu (q ▸ m)).trans e) (fun b o e _ n=>(k b fun q=>n (q ▸ ha)).trans e) (Nat.le_of_eq sz.symm)
theorem G2 {y:Str} {t:Tok} {u:Value} {x:C} {a:Addr} {n:Nat} (x':Go W h₀ own σ σ' H) (ha:σ.sz≤a) (g:σ'.h.get? a=some (dO #[⟨PyData.keyHash W y,.str y t,u⟩] n)) (m:¬Mu σ'.φ a) (ne:a≠1) (c:CR W σ'.P x u):
  TR W (Fr σ'.P a (dO #[⟨PyData.keyHash W y,.str y t,u⟩] n)) σ'.φ (.c (.dcs [(y.cps.toList,x)])) (.ref a):=
 ⟨a,_,n,rfl,.inr ⟨rfl,rfl⟩,ne,y,t,u,[],rfl,rfl,b9 (fun _ _=>.inl) x u c,rfl⟩
include S D5 in
theorem KP {ke ve:Expr} {q:KV} {Q:Value→Shared→Prop} (h:r.ex (cX G N k ke) F H fun a H=>kC a fun a=>oo (asS a) fun s=>r.ex (cX G N k ve) F H fun b H=>kC b fun x=>q (.c (.dcs [(s,x)])) H) (s:Sit w.params h₀ k env A F σ H) (post:Sat w.params h₀ σ q Q):
  wpAny (model prog w) A (eval (.Dict [some ke] [ve] pos) env) Q E σ.s:=by
 refine wpAny_Dict_any rfl rfl (by simp) (by simp) ?_
 have g0:Go w.params h₀ bG σ ⟨σ.P,σ.φ,to σ.s (σ.h.push {cls:=.type "dict",data:=.dict #[]}) σ.s.toks⟩ H:=s.ok.grow0 (fun b o _ e=>a8 _ b o e) (fun _ q=>q.elim) (aU _)
 have a0:(σ.h.push {cls:=.type "dict",data:=.dict #[]}).get? σ.sz=some (dO #[] 0):=Heap.get?_push_size _ rfl
 have p0:Prv ⟨σ.P,σ.φ,to σ.s (σ.h.push {cls:=.type "dict",data:=.dict #[]}) σ.s.toks⟩ σ.sz:=s.ok.prv (Nat.le_refl _) (Heap.lt_size a0)
 refine pairTrees_cons_walk (S.ex h (s.up g0) fun v H1 u σ1 h1 g1 t1=>kCE h1 fun c hc h2=>ooE h2 fun y hy h3=>S.ex h3 (s.up (g0.trans g1)) fun v2 H2 u2 σ2 h4 g2 t2=>kCE h4 fun x hx hq=>pairTrees_nil_walk ?_)
 have g12:=g1.trans g2
 have p2:=p0.up g12.le
 have a2:=g12.le.keep _ _ a0 p0.mu id
 have t1:=t1.c hc
 rw [gB hy] at t1
 obtain ⟨yy,ty,rfl,rfl⟩:=t1
 clear h1 h2 h3 h4 h p0 a0
 refine wpAny_bind (wpAny_bind (D5.dst (new1 s.ok) a2 fun h3 n3 t3 tk3 a3 k3 sz3=>wpAny_pure (wpAny_pure ?_)))
 have g3:Go w.params h₀ (fun b=>b=σ.sz) σ2 ⟨σ2.P,σ2.φ,to σ2.s h3 tk3⟩ H2:=g2.ok.turn p2 k3 sz3 rfl
 have g:Go w.params h₀ bG σ ⟨σ2.P,σ2.φ,to σ2.s h3 tk3⟩ H2:=((g0.trans g12).weak.trans g3).weaken fun b (e:b=σ.sz)=>.inr (Nat.le_of_eq e.symm)
 exact post _ H2 _ _ hq (g.freeze (Nat.le_refl _) a3 p2.mu) (G2 g (Nat.le_refl _) a3 p2.mu (new1 s.ok) (t2.c hx))
theorem MA {x:Str} {t:Mine.T} (h:cTn k x=t):t= .bad∨a6 x=true∧nkL (k x)=true∧t= .nm (enc x):=by
 subst h
 unfold cTn
 rcases q:a6 x && nkL (k x) with _ |_
 ·exact .inl rfl
 ·rw [Bool.and_eq_true] at q
  exact .inr ⟨q.1,q.2,rfl⟩
theorem qJ {x:Str} (ok:a6 x=true) (hk:nkL (k x)=true) {v:V} {u:Value} (fr:Frm w.params k env vs σ) (c:Ok w.params h₀ σ H) (t:TR w.params σ.P σ.φ v u) {Q:Unit→Shared→Prop}
  (post:∀ σ',Go w.params h₀ (ownOf k env) σ σ' H→Frm w.params k env (put (enc x) v vs) σ'→Q () σ'.s):wpAny (model prog w) A (storeName env x u) Q E σ.s:=by
 have new:∀ {y:Str} {v':V},a6 y=true→lk (put (enc x) v vs) (enc y)=some v'→(y=x∧v'=v)∨(y≠x∧lk vs (enc y)=some v'):=fun {y v'} oy hv=>by
  rw [yF] at hv
  by_cases e:enc y=enc x
  ·rw [if_pos e] at hv;exact .inl ⟨k9 oy ok e,(Option.some.inj hv).symm⟩
  ·rw [if_neg e] at hv;exact .inr ⟨fun q=>e (q ▸ rfl),hv⟩
 have up:∀ {h':Heap} {tk:Tok} {v:V} {u:Option Value},VR w.params σ v u→VR w.params ⟨σ.P,σ.φ,to σ.s h' tk⟩ v u:=fun z=>z
 have pu:∀ {a:Addr} {h':Heap} {tk:Tok},Mine k env a→h'.objs.size=σ.sz→Prv ⟨σ.P,σ.φ,to σ.s h' tk⟩ a:=fun m sz=>⟨(fr.own _ m).mu,(fr.own _ m).fz,Nat.lt_of_lt_of_eq (fr.own _ m).lt sz.symm⟩
 rcases e:k x with _ |kd
 ·rw [e] at hk;exact Bool.noConfusion hk
 rw [e] at hk
 obtain ⟨m,hn,g⟩:=fr.ns
 rcases kd with _ |_ <;> first |exact Bool.noConfusion hk |skip
 ·refine wpAny_storeName_local (fr.st.kl _ e) hn (fun h' hn' hs'=> ?_) (by rw [fr.st.kind];rfl)
  refine post ⟨σ.P,σ.φ,to σ.s h' _⟩ (c.turn (fr.own _ .loc) hs'.2 hs'.1 .loc) ⟨fr.st,⟨_,hn',fun y oy hy v' hv=> ?_⟩,fun y hy=> ?_,fun a m=>pu m hs'.1⟩
  ·rcases new oy hv with ⟨rfl,rfl⟩ | ⟨ne,hv⟩
   ·exact ⟨u,if_pos rfl,t⟩
   ·rw [if_neg ne];exact up (g y oy hy v' hv)
  ·obtain ⟨c,u',hc,i,z⟩:=fr.cell y hy
   refine ⟨c,u',hc,i9 (fun o q=>(hs'.2 c (fr.st.sep y c hy hc)).trans q) i,fun oy v' hv=> ?_⟩
   rcases new oy hv with ⟨rfl,_⟩ | ⟨_,hv⟩
   ·rw [e] at hy;exact Bool.noConfusion hy
   ·exact up (z oy v' hv)
 ·have hf:nkF (k x)=true:=e ▸ rfl
  obtain ⟨c',u₀,hc,hi,_⟩:=fr.cell x hf
  refine wpAny_storeName_cell fr.st.kind (fr.st.kc _ e) hc hi fun h' hi' hs'=> ?_
  refine post ⟨σ.P,σ.φ,to σ.s h' _⟩ (c.turn (fr.own _ (.cel x c' hf hc)) hs'.2 hs'.1 (.cel x c' e hc)) ⟨fr.st,⟨m,hn.sameBut hs' (fr.st.sep x c' hf hc).symm,fun y oy hy v' hv=> ?_⟩,fun y hy=> ?_,fun a m=>pu m hs'.1⟩
  ·rcases new oy hv with ⟨rfl,_⟩ | ⟨_,hv⟩
   ·rw [e] at hy;exact nomatch hy
   ·exact up (g y oy hy v' hv)
  ·obtain ⟨c2,u',hc2,i,z⟩:=fr.cell y hy
   by_cases q:c2=c'
   ·subst q
    refine ⟨c2,_,hc2,hi',fun oy v' hv=> ?_⟩
    rcases new oy hv with ⟨_,rfl⟩ | ⟨ne,_⟩
    ·exact ⟨u,rfl,t⟩
    ·exact absurd (fr.st.apart x y c2 e hy hc hc2).symm ne
   ·refine ⟨c2,u',hc2,i9 (fun o z=>(hs'.2 c2 q).trans z) i,fun oy v' hv=> ?_⟩
    rcases new oy hv with ⟨rfl,_⟩ | ⟨_,hv⟩
    ·exact absurd (Option.some.inj (hc2.symm.trans hc)) q
    ·exact up (z oy v' hv)
end
noncomputable def sA (W:Params) (h₀:Heap) (k:Kn) (env:Env) (σ:Wd) (d:Nat) (q:KA) (Q:Unit→Shared→Prop):Prop:=∀ F' H' σ',q F' H'→F'.d=d→Go W h₀ (ownOf k env) σ σ' H'→Frm W k env F'.vs σ'→Q () σ'.s
section
variable {prog:Program} {w:World} {h₀:Heap} {G:Nat→Option C} {T:Tb} {r:Rec} (S:Snd prog w h₀ G r) (M:Op3 prog w h₀ T)
variable {k:Kn} {env:Env} {A:Around} {σ σ':Wd} {E:Value→Shared→Prop} {N:Nat} {F:Fm} {H H':List O} {pos:Pos} {own:Addr→Prop} {W:Params} {v:V} {u:Value} {q:KA} {Q:Unit→Shared→Prop}
theorem OR.i {P:Fz} {h:Heap} {c:Nat} {l:List (Nat × C)} {p:Addr × Addr} (R:OR W P h (.ins c l) p):∃ es n,h.get? p.1=some ⟨.ref c,some p.2,.plain,#[]⟩∧h.get? p.2=some (dO es n)∧p.1≠p.2∧CRf W P l es.toList:=by
 cases R with |ins g g' ne r=>exact ⟨_,_,g,g',ne,r⟩
theorem OR.d {P:Fz} {h:Heap} {l:List (List Nat × C)} {p:Addr × Addr} (R:OR W P h (.dcs l) p):∃ es n,h.get? p.1=some (dO es n)∧p.1≠1∧CRd W P l es.toList∧p.2=p.1:=by
 cases R with |dcs g ne r=>exact ⟨_,_,g,ne,r,rfl⟩
theorem gTE {b:Bool} {t:Mine.T} {g:Prop} (h:asg1 T r (gT' b t) v F H q) (f:b=true→asg1 T r t v F H q→g):g:=by
 rcases b with _ |_
 ·exact h.elim
 ·exact f rfl h
theorem KQ {x:Str} (h:asg1 T r (cTn k x) v F H q) (s:Sit w.params h₀ k env A F σ H) (tv:TR w.params σ.P σ.φ v u) (post:sA w.params h₀ k env σ F.d q Q):wpAny (model prog w) A (assign (.Name x pos) env u) Q E σ.s:=
 gTE h fun ok h=>have ok:=(Bool.and_eq_true _ _).mp ok;wpAny_assign_Name (qJ ok.1 ok.2 s.fr s.ok tv fun σ' g f=>post _ H σ' h rfl g f)
include S M in
theorem NB {o:Expr} {a:Str} (h:asg1 T r (gT' (a6 a) (.at (cX G N k o) (enc a))) v F H q) (s:Sit w.params h₀ k env A F σ H) (tv:TR w.params σ.P σ.φ v u) (post:sA w.params h₀ k env σ F.d q Q):wpAny (model prog w) A (assign (.Attribute o a pos) env u) Q E σ.s:=by
 rw [arm_assign_Attribute]
 refine gTE h fun oy h=>wpAny_bind (wpAny_holding (S.ex h s fun vo H1 uo σ1 h1 g1 t1=>kRE h1 fun n hn h2=>kCE h2 fun x hx h3=>ooE h3 fun ob ho h4=>ooE h4 fun p hp h5=>kBE h5 fun hok hq=>wpAny_bind (wpAny_standAt (wpAny_bind (wpAny_holding ?_)))))
 clear h1 h2 h3 h4 h5 h
 obtain ⟨pa,hpa,rfl⟩:=t1.rf hn
 have ei:ob= .ins p.1 p.2:=by rcases ob with _ |_ <;> first |exact nn hp |exact Option.some.inj hp ▸ rfl
 obtain ⟨es,nn',g,g',ne,cr⟩:=(g1.ok.obj hpa (ei ▸ ho)).i
 rw [Bool.and_eq_true] at hok
 refine M.sat hok.1 (Nat.le_of_ble_eq_true hok.2) oy g1.ok.kept g1.ok.inh g g' cr (g1.le.cr (tv.c hx)) fun h2 es2 n2 tk2 g2 k2 sz2 cr2=> ?_
 have pt:∀ {own},Go w.params h₀ own σ1 ⟨σ1.P,σ1.φ,to σ1.s h2 tk2⟩ _:=g1.ok.put hpa (fun b hb=>k2 b fun e=>hb (.inr e)) sz2 (.ins ((k2 _ ne).trans g) g2 ne cr2)
 exact wpAny_release (post F _ _ hq rfl (g1.weak.trans pt) ((s.up g1).fr.up (own:=bG) pt.le fun _ _ q=>q))
include M in
theorem KR {n:Nat} {ob ob':O} {i x:C} {p:Addr × Addr} {ui ux:Value} (hs:JF ob i x=some ob') (ho:H[n]? =some ob) (hp:σ.φ[n]? =some p) (ti:CR w.params σ.P i ui) (tx:CR w.params σ.P x ux) (ok:Ok w.params h₀ σ H)
  (post:∀ σ',(∀ own,Go w.params h₀ own σ σ' (H.set n ob'))→Q () σ'.s):wpAny (model prog w) A (setItem (.ref p.1) ui ux) Q E σ.s:=by
 have R:=ok.obj hp ho
 rcases ob with l |l |_
 ·obtain ⟨j,ej,hs⟩:=bM hs
  obtain ⟨jj,hj,e⟩:=bM hs
  rw [gA ej] at ti
  obtain ⟨t,rfl⟩:=ti
  obtain ⟨ws,nn',g,cr,hs'⟩:=R.l
  refine M.sil (by rw [← Array.length_toList,bV cr];exact hj) g fun h' n' tk g' k' sz'=>post ⟨σ.P,σ.φ,to σ.s h' tk⟩ fun own=>Option.some.inj e ▸ uD ok hp hs' ho g' k' sz' ?_
  rw [Array.toList_setIfInBounds]
  exact uA cr tx
 ·obtain ⟨y,ey,hs⟩:=bM hs
  obtain ⟨hl,e⟩:=ifS hs
  rw [gB ey] at ti
  obtain ⟨yy,ty,rfl,hy⟩:=ti
  obtain ⟨es,nn',g,ne,cr,e2⟩:=R.d
  exact M.sid hl.1 hl.2 ne ok.inh g cr tx fun h' es' n' tk g' k' sz' cr'=>post ⟨σ.P,σ.φ,to σ.s h' tk⟩ fun own=>e ▸ ok.put hp (fun b hb=>k' b fun e=>hb (.inl e)) sz' (by
   obtain ⟨a,b⟩:=p
   cases (e2:b=a)
   exact .dcs g' ne (hy ▸ cr'))
 ·exact nn hs
include S M in
theorem NC {o i:Expr} (h:asg1 T r (.ix (cX G N k o) (cX G N k i)) v F H q) (s:Sit w.params h₀ k env A F σ H) (tv:TR w.params σ.P σ.φ v u) (post:sA w.params h₀ k env σ F.d q Q):wpAny (model prog w) A (assign (.Subscript o i pos) env u) Q E σ.s:=by
 rw [arm_assign_Subscript]
 refine wpAny_bind (wpAny_holding (S.ex h s fun vo H1 uo σ1 h1 g1 t1=>kRE h1 fun n hn h2=>wpAny_bind (wpAny_holding (S.ex h2 (s.up g1) fun vi H2 ui σ2 h3 g2 t2=>kCE h3 fun i hi h4=>kCE h4 fun x hx h5=>ooE h5 fun ob ho h6=>ooE h6 fun ob' hs hq=>wpAny_bind (wpAny_standAt (wpAny_bind (wpAny_holding ?_)))))))
 clear h1 h2 h3 h4 h5 h6 h
 obtain ⟨pa,hpa,rfl⟩:=t1.rf hn
 exact KR M hs ho (g2.le.get _ _ hpa) (t2.c hi) ((g1.trans g2).le.cr (tv.c hx)) g2.ok fun σ' g3=>wpAny_release (post F _ σ' hq rfl ((g1.trans g2).weak.trans (g3 _)) ((s.up (g1.trans g2)).fr.up (own:=bG) (g3 _).le fun _ _ q=>q))
include S M in
theorem uE {e:Expr} (h:asg1 T r (cT1 (cX G N k) k e) v F H q) (s:Sit w.params h₀ k env A F σ H) (tv:TR w.params σ.P σ.φ v u) (post:sA w.params h₀ k env σ F.d q Q):wpAny (model prog w) A (assign e env u) Q E σ.s:=by
 rcases e with _ |_ <;> first |exact h.elim |exact KQ h s tv post |exact NB S M h s tv post |exact NC S M h s tv post
theorem star1 {e:Expr} (h:nbT (cT1 (cX G N k) k e)=true) (rest:List Expr):assignEach (e::rest) env=(false,assign e env)::assignEach rest env:=by
 rcases e with _ |_ <;> first |exact rfl |exact Bool.noConfusion h
theorem stars:∀ {es:List Expr},(es.map (cT1 (cX G N k) k)).all nbT=true→assignEach es env=es.map fun e=>(false,assign e env)
 | [],_=>rfl
 |e::es,h=>by
  rw [List.map_cons,List.all_cons,Bool.and_eq_true] at h
  rw [star1 h.1,stars h.2];rfl
include S M in
theorem uF:∀ {es:List Expr} {cs:List C} {F:Fm} {H:List O} {q:KA},es.length=cs.length→asgs T r (es.map (cT1 (cX G N k) k)) cs F H q→∀ {us:List Value} {σ},Sit w.params h₀ k env A F σ H→CRs w.params σ.P cs us→sA w.params h₀ k env σ F.d q Q→
  wpAny (model prog w) A (assignInOrder (es.map fun e=>assign e env) us) Q E σ.s
 | [],[],F,H,q,_,h,us,σ,s,cr,post=>by subst cr;exact assignInOrder_nil (post F H σ h rfl s.ok.go s.fr)
 |e::es,c::cs,F,H,q,hl,h,us,σ,s,cr,post=>by
  obtain ⟨u,us',rfl,cu,cr'⟩:=cr
  have h:asg1 T r (cT1 (cX G N k) k e) (.c c) F H fun F H=>asgs T r (es.map (cT1 (cX G N k) k)) cs F H q:=h
  exact assignInOrder_cons (uE S M h s (v:=.c c) cu fun F1 H1 σ1 h1 d1 g1 f1=>uF (Nat.succ.inj hl) h1 ⟨d1 ▸ s.rm,f1,g1.ok⟩ (bW g1.le.up _ _ cr') fun F2 H2 σ2 h2 d2 g2 f2=>post F2 H2 σ2 h2 (d2.trans d1) (g1.trans g2) f2)
theorem yG:∀ {es:List Expr},(es.map fun e=>(false,assign e env)).findIdx? (·.1)=none
 | []=>rfl
 |e::es=>by rw [List.map_cons,List.findIdx?_cons,yG (es:=es)];rfl
theorem KS {b:Bool} {t:Mine.T} (h:tpT t=none):tpT (gT' b t)=none:=by
 rcases b with _ |_
 ·rfl
 ·exact h
theorem CY {e:Expr}:tpT (cT1 (cX G N k) k e)=none:=by
 rcases e with _ |_ <;> first |exact rfl |exact KS rfl
theorem vN {e:Expr}:cT0 (cX G N k) k e=cT1 (cX G N k) k e∨∃ es n p,e= .Tuple es n p:=by
 rcases e with _ |_ <;> first |exact .inl rfl |exact .inr ⟨_,_,_,rfl⟩
include S M in
theorem ND {es:List Expr} {n:Nat} (h:asg T r (gT' ((es.map (cT1 (cX G N k) k)).all nbT) (.tp (es.map (cT1 (cX G N k) k)))) v F H q) (s:Sit w.params h₀ k env A F σ H) (tv:TR w.params σ.P σ.φ v u) (post:sA w.params h₀ k env σ F.d q Q):wpAny (model prog w) A (assign (.Tuple es n pos) env u) Q E σ.s:=by
 rcases nb:(es.map (cT1 (cX G N k) k)).all nbT with _ |_
 ·rw [nb] at h;exact h.elim
 rw [nb] at h
 refine kCE h fun c hc h1=>ooE h1 fun cs hcs h2=>kBE h2 fun hl h3=> ?_
 clear h h1 h2
 have tv:=tv.c hc
 rw [nI hcs] at tv
 obtain ⟨a,o,ws,nn,rfl,pa,hc,hd,cr⟩:=tv
 have hl:es.length=cs.length:=List.length_map (cT1 (cX G N k) k) ▸ Nat.eq_of_beq_eq_true hl
 rw [arm_assign_Tuple]
 refine wpAny_bind (wpAny_standAt ?_)
 unfold unpack
 rw [stars nb,yG,List.length_map,hl,← bV cr,Array.length_toList,List.map_map]
 refine wpAny_bind (wpAny_holding (aV (wpAny_unpackItems_tuple s.rm.handled ⟨o,s.ok.inh _ _ pa,cls1 hc,nn,hd⟩ fun h1 hx sz=> ?_)))
 have kk:∀ b o,σ.h.get? b=some o→h1.get? b=some o:=fun b o e=>hx b o (Nat.ne_of_lt (Heap.lt_size e)) e
 have g:Go w.params h₀ bG σ ⟨σ.P,σ.φ,to σ.s h1 σ.s.toks⟩ H:=s.ok.grow0 (fun b o _ e=>kk b o e) (fun _ q=>q.elim) sz
 exact uF S M hl h3 (s.up g) cr fun F2 H2 σ2 h2 d2 g2 f2=>post F2 H2 σ2 h2 d2 (g.weak.trans g2) f2
include S M in
theorem sC {e:Expr} (h:asg T r (cT0 (cX G N k) k e) v F H q) (s:Sit w.params h₀ k env A F σ H) (tv:TR w.params σ.P σ.φ v u) (post:sA w.params h₀ k env σ F.d q Q):wpAny (model prog w) A (assign e env u) Q E σ.s:=by
 rcases vN (G:=G) (N:=N) (k:=k) (e:=e) with e1 | ⟨es,n,p,rfl⟩
 ·refine uE (N:=N) S M ?_ s tv post
  unfold asg at h
  rw [e1,CY] at h
  exact h
 ·exact ND S M h s tv post
end
section
variable {prog:Program} {w:World} {h₀:Heap} {G:Nat→Option C} {T:Tb} {r:Rec} (S:Snd prog w h₀ G r) (M:Op3 prog w h₀ T)
variable {k:Kn} {env:Env} {A:Around} {σ σ':Wd} {E:Value→Shared→Prop} {N:Nat} {F:Fm} {H H':List O} {pos:Pos} {own:Addr→Prop} {W:Params} {q:KF}
include S in
theorem jB:∀ {xs:List Stmt} {F:Fm} {H:List O} {q:KF},sts r (xs.map (cS G k N)) F H q→∀ {σ} {Q:Flow→Shared→Prop},Sit w.params h₀ k env A F σ H→SatF w.params h₀ k env σ F.d q Q→wpAny (model prog w) A (execs xs env) Q E σ.s
 | [],F,H,q,h,σ,Q,s,post=>wpAny_execs_nil (post .nx F H .next σ h rfl s.ok.go s.fr rfl)
 |x::xs,F,H,q,h,σ,Q,s,post=>wpAny_execs_cons (S.st h s fun fl F1 H1 f σ1 h1 d1 g1 f1 rl=>by
  rcases fl with _ |_ |v
  ·cases rl
   exact jB h1 ⟨d1 ▸ s.rm,f1,g1.ok⟩ fun fl F2 H2 f σ2 h2 d2 g2 f2 rl=>post fl F2 H2 f σ2 h2 (d2.trans d1) (g1.trans g2) f2 rl
  ·cases rl
   exact post .bk F1 H1 .brk σ1 h1 d1 g1 f1 rfl
  ·obtain ⟨u,rfl,t⟩:=rl
   exact post (.rt v) F1 H1 (.ret u) σ1 h1 d1 g1 f1 ⟨u,rfl,t⟩)
structure Turn (prog:Program) (w:World) (A:Around) (P:Fz) (cs:List C) (I:Addr) (fp:List Addr) (StI:Nat→Heap→Prop) (σ:Wd):Prop where
 it:Iter prog w A P cs I fp StI
 up:∀ a o,P a o→σ.P a o
 fp:∀ b∈fp,b=I∨∃ o,P b o
 pv:Prv σ I
theorem Turn.up' {P:Fz} {cs:List C} {I:Addr} {fp:List Addr} {StI:Nat→Heap→Prop} (t:Turn prog w A P cs I fp StI σ) (x:Le own σ σ'):Turn prog w A P cs I fp StI σ':=⟨t.it,fun a o e=>x.up a o (t.up a o e),t.fp,t.pv.up x⟩
theorem Turn.st {P:Fz} {cs:List C} {I:Addr} {fp:List Addr} {StI:Nat→Heap→Prop} (t:Turn prog w A P cs I fp StI σ) {i:Nat} (st:StI i σ.h) (ok:Ok W h₀ σ H) (x:Go W h₀ own σ σ' H') (no:¬own I):StI i σ'.h:=
 t.it.walks.frame i _ _ st fun b hb o e=>by
  rcases t.fp b hb with rfl | ⟨o',p⟩
  ·exact x.le.keep b o e t.pv.mu no
  ·have p:=t.up b o' p
   rw [ok.inh b o' p] at e
   exact e ▸ x.ok.inh b o' (x.le.up b o' p)
theorem Turn.item {P:Fz} {cs:List C} {I:Addr} {fp:List Addr} {StI:Nat→Heap→Prop} (t:Turn prog w A P cs I fp StI σ) {i:Nat} (st:StI i σ.h) (ok:Ok w.params h₀ σ H) (hi:i < cs.length) {Q':Option Value→Shared→Prop}
  (post:∀ v σ',Go w.params h₀ (fun a=>a=I) σ σ' H→CR w.params σ'.P cs[i] v→StI (i+1) σ'.h→Q' (some v) σ'.s):wpAny (model prog w) A (pyNext (.ref I)) Q' E σ.s:=
 aV (t.it.walks.item i _ _ _ hi st fun v h2 tk2 hv st2 kk sz=>
  let ⟨_,hc,cr⟩:=hv
  post v ⟨σ.P,σ.φ,to σ.s h2 tk2⟩ (ok.grow0 (fun b o n e=>kk b o (fun q=>n (List.mem_singleton.mp q)) e) (fun b (e:b=I)=>e ▸ ⟨t.pv.mu,t.pv.fz⟩) sz) (Option.some.inj (hc.symm.trans (List.getElem?_eq_getElem hi)) ▸ b9 t.up _ _ cr) st2)
theorem Turn.done {P:Fz} {cs:List C} {I:Addr} {fp:List Addr} {StI:Nat→Heap→Prop} (t:Turn prog w A P cs I fp StI σ) (st:StI cs.length σ.h) (ok:Ok w.params h₀ σ H) {Q':Option Value→Shared→Prop}
  (post:∀ σ',Go w.params h₀ (fun a=>a=I) σ σ' H→Q' none σ'.s):wpAny (model prog w) A (pyNext (.ref I)) Q' E σ.s:=
 aV (t.it.walks.done _ _ _ st fun h2 tk2 kk sz=>post _ (ok.grow0 (fun b o n e=>kk b o (fun q=>n (List.mem_singleton.mp q)) e) (fun b (e:b=I)=>e ▸ ⟨t.pv.mu,t.pv.fz⟩) sz))
inductive FInv (prog:Program) (w:World) (h₀:Heap) (T:Tb) (r:Rec) (A:Around) (k:Kn) (env:Env) (t:Mine.T) (b:List Mine.S) (q:KF) (d:Nat) (P:Fz) (cs:List C) (I:Addr) (fp:List Addr) (StI:Nat→Heap→Prop) (σ:Wd):Nat→Shared→Prop
 |mk (σ':Wd) (F1:Fm) (H1:List O) (i:Nat) (hi:i≤cs.length) (hl:loop T r t b (cs.drop i) F1 H1 q) (hd:F1.d=d) (g:Go w.params h₀ (fun a=>ownOf k env a∨a=I) σ σ' H1) (f:Frm w.params k env F1.vs σ') (tn:Turn prog w A P cs I fp StI σ') (st:StI i σ'.h):
  FInv prog w h₀ T r A k env t b q d P cs I fp StI σ (cs.length - i) σ'.s
include S M in
theorem sD {target:Expr} {body:List Stmt} {N':Nat} {P:Fz} {cs:List C} {I:Addr} {fp:List Addr} {StI:Nat→Heap→Prop} (h:loop T r (cT0 (cX G N k) k target) (body.map (cS G k N')) cs F H q) (s:Sit w.params h₀ k env A F σ H) (tn:Turn prog w A P cs I fp StI σ) (st:StI 0 σ.h) (no:∀ a,Mine k env a→a≠I)
  {R:Result→Shared→Prop} (post:∀ fl F' H' f σ',q fl F' H'→F'.d=F.d→Go w.params h₀ (fun a=>ownOf k env a∨a=I) σ σ' H'→Frm w.params k env F'.vs σ'→FlR w.params σ' fl f→R (.ok f) σ'.s):
  codeAny (model prog w) A (.forLoop target (.ref I) body [] env) R σ.s:=by
 refine codeAny_forLoop_any (FInv prog w h₀ T r A k env (cT0 (cX G N k) k target) (body.map (cS G k N')) q F.d P cs I fp StI σ) (fun n s' hI=> ?_) _ (.mk σ F H 0 (Nat.zero_le _) h rfl s.ok.go s.fr tn st)
 induction hI with |mk σ' F1 H1 i hi hl hd g f tn st=> ?_
 have fin:∀ {fl F2 H2 fw σ2},q fl F2 H2→F2.d=F.d→Go w.params h₀ (fun a=>ownOf k env a∨a=I) σ' σ2 H2→Frm w.params k env F2.vs σ2→FlR w.params σ2 fl fw→R (.ok fw) σ2.s:=fun hq hd g2 f2 rl=>post _ _ _ _ _ hq hd (g.trans g2) f2 rl
 rcases Nat.lt_or_ge i cs.length with hlt |hge
 ·rw [List.drop_eq_getElem_cons hlt] at hl
  refine tn.item st g.ok hlt fun v σ2 g2 cr st2=> ?_
  have f2:=f.up g2.le no
  have tn2:=tn.up' g2.le
  refine qF (tn.it.cls _ _ st2) (sC S M hl ⟨hd ▸ s.rm,f2,g2.ok⟩ (v:=.c cs[i]) cr fun F3 H3 σ3 h3 d3 g3 f3=>jB S h3 ⟨(d3.trans hd) ▸ s.rm,f3,g3.ok⟩ fun fl F4 H4 fw σ4 h4 d4 g4 f4 rl=> ?_)
  have g34:=g3.trans g4
  have dd:=d4.trans (d3.trans hd)
  have gg:Go w.params h₀ (fun a=>ownOf k env a∨a=I) σ' σ4 H4:=(g2.weaken fun _ q=>.inl (.inr q)).trans (g34.weaken fun _ q=>.inl (.inl q))
  rcases fl with _ |_ |v
  ·cases rl
   exact ⟨cs.length - (i+1),Nat.sub_lt_sub_left hlt (Nat.lt_succ_self i),.mk σ4 F4 H4 (i+1) hlt h4 dd (g.trans gg) f4 (tn2.up' g34.le) (tn2.st st2 g2.ok g34 fun q=>no I q.mine rfl)⟩
  ·cases rl
   exact fin h4 dd gg f4 rfl
  ·obtain ⟨u,rfl,t⟩:=rl
   exact fin h4 dd gg f4 ⟨u,rfl,t⟩
 ·have e:i=cs.length:=Nat.le_antisymm hi hge
  rw [e] at st
  rw [List.drop_of_length_le hge] at hl
  exact tn.done st g.ok fun σ2 g2=>wpAny_execs_nil (fin (fl:=.nx) hl hd (g2.weaken fun _ q=>.inl (.inr q)) (f.up g2.le no) rfl)
end
theorem mem_iff {n:Nat}:∀ {l:List Nat},mem n l=true↔n∈l
 | []=>⟨nofun,nofun⟩
 |m::l=>by
  refine (?_:(match Nat.beq m n with |true=>true |false=>mem n l)=true↔_)
  rcases q:Nat.beq m n with _ |_
  ·exact mem_iff.trans ⟨.tail _,fun h=>by
    rcases h with _ | ⟨_,h⟩
    ·rw [Nat.beq_refl] at q;exact Bool.noConfusion q
    ·exact h⟩
  ·exact ⟨fun _=>Nat.eq_of_beq_eq_true q ▸ .head _,fun _=>rfl⟩
theorem iL {ns:List Nat} {n:Nat} {v:V}:∀ {l:List (Nat × V)},lk (d6 ns l) n=some v→mem n ns=false∧lk l n=some v
 | [],h=>nomatch h
 |p::l,h=>by
  replace h:lk (match mem p.1 ns with |true=>d6 ns l |false=>p::d6 ns l) n=some v:=h
  by_cases e:p.1=n
  ·subst e
   rcases q:mem p.1 ns with _ |_
   ·rw [q] at h;exact ⟨rfl,lk_self.trans ((lk_self (l:=d6 ns l)).symm.trans h)⟩
   ·rw [q] at h;have:=(iL h).1;rw [q] at this;exact Bool.noConfusion this
  ·rw [gV e]
   rcases q:mem p.1 ns with _ |_
   ·rw [q] at h;exact iL ((gV (l:=d6 ns l) e).symm.trans h)
   ·rw [q] at h;exact iL h
theorem cJ {α:Type} {x:Str} {v:α}:∀ {l:List (Str × α)},l.lookup x=some v→(x,v)∈l
 | [],h=>nomatch h
 | (y,u)::l,h=>by
  rw [List.lookup_cons] at h
  rcases q:x == y with _ |_
  ·rw [q] at h;exact .tail _ (cJ h)
  ·rw [q] at h;exact beq_iff_eq.mp q ▸ Option.some.inj h ▸ .head _
theorem lF {env:Env} {x:Str} {kd:NameKind}:∀ {l:List (Str × NameKind)},l.lookup x=some kd→
  (l.map fun (n,k)=>if (k == NameKind.free && env.scope.kind == .function && env.kindOf n == some .cell) then (n,NameKind.cell) else (n,k)).lookup x=
   some (if (kd == NameKind.free && env.scope.kind == .function && env.kindOf x == some .cell) then NameKind.cell else kd)
 | [],h=>nomatch h
 | (y,u)::l,h=>by
  rw [List.lookup_cons] at h
  have hk:∀ c:Bool,(if c=true then (y,NameKind.cell) else (y,u)).1=y:=Bool.rec rfl rfl
  rw [List.map_cons,List.lookup_cons,hk]
  rcases q:x == y with _ |_
  ·rw [q] at h;exact lF h
  ·rw [q] at h
   cases beq_iff_eq.mp q
   cases h
   exact (apply_ite (fun z:Str × NameKind=>some z.2) ..).trans (apply_ite some ..).symm
theorem mV {env:Env} {y:Str}:∀ {cl:List (Str × Addr)},(∀ p∈cl,env.cells.lookup p.1=some p.2)→(∃ p∈cl,p.1=y)→cl.lookup y=env.cells.lookup y
 | [],_,⟨_,h,_⟩=>nomatch h
 | (z,c)::cl,hp,he=>by
  rw [List.lookup_cons]
  rcases q:y == z with _ |_
  ·refine mV (fun p h=>hp p (.tail _ h)) ?_
   obtain ⟨p,h,rfl⟩:=he
   rcases h with _ | ⟨_,h⟩
   ·rw [beq_self_eq_true] at q;exact Bool.noConfusion q
   ·exact ⟨p,h,rfl⟩
  ·exact beq_iff_eq.mp q ▸ (hp (z,c) (.head _)).symm
theorem hU {env:Env}:∀ (l:List (Str × NameKind)) (acc:List (Str × Addr)),(∀ y,(y,NameKind.free)∈l→∃ c,env.cells.lookup y=some c)→(∀ p∈acc,env.cells.lookup p.1=some p.2)→
  ∃ cl,(forIn l acc (fun (x:Str × NameKind) (cs:List (Str × Addr))=>(if (x.2 == NameKind.free)=true then (do let c ← cellOf env x.1;pure (ForInStep.yield ((x.1,c)::cs))) else pure (ForInStep.yield cs):Sem (ForInStep (List (Str × Addr))))):Sem (List (Str × Addr)))=pure cl∧
   (∀ p∈cl,env.cells.lookup p.1=some p.2)∧(∀ p∈acc,p∈cl)∧∀ y,(y,NameKind.free)∈l→∃ p∈cl,p.1=y
 | [],acc,_,ha=>⟨acc,rfl,ha,fun _ q=>q,nofun⟩
 | (y,kd)::l,acc,hl,ha=>by
  rw [List.forIn_cons]
  rcases q:kd == NameKind.free with _ |_
  ·obtain ⟨cl,e,h1,h2,h3⟩:=hU l acc (fun z hz=>hl z (.tail _ hz)) ha
   refine ⟨cl,(congrArg (· >>=_) (if_neg Bool.false_ne_true)).trans e,h1,h2,fun z hz=> ?_⟩
   rcases hz with _ | ⟨_,hz⟩
   ·exact Bool.noConfusion q
   ·exact h3 z hz
  ·cases beq_iff_eq.mp q
   obtain ⟨c,hc⟩:=hl y (.head _)
   obtain ⟨cl,e,h1,h2,h3⟩:=hU l ((y,c)::acc) (fun z hz=>hl z (.tail _ hz)) (List.forall_mem_cons.mpr ⟨hc,ha⟩)
   have hco:cellOf env y=pure c:=by unfold cellOf;rw [hc]
   refine ⟨cl,(congrArg (· >>=_) ((if_pos rfl).trans (congrArg (· >>=_) hco))).trans e,h1,fun p hp=>h2 p (.tail _ hp),fun z hz=> ?_⟩
   rcases hz with _ | ⟨_,hz⟩
   ·exact ⟨_,h2 _ (.head _),rfl⟩
   ·exact h3 z hz
theorem sE {scope:Scope} {env:Env} (h:∀ y,(y,NameKind.free)∈scope.names→∃ c,env.cells.lookup y=some c):
  ∃ cl,closureFor scope env=pure cl∧∀ y,(y,NameKind.free)∈scope.names→cl.lookup y=env.cells.lookup y:=by
 obtain ⟨cl,e,h1,_,h3⟩:=hU scope.names [] h nofun
 refine ⟨cl,?_,fun y hy=>mV h1 (h3 y hy)⟩
 unfold closureFor
 have e':=congrArg (fun m:Sem (List (Str × Addr))=>m >>=pure) e
 simp only [bind_pure] at e'
 simpa using e'
section
variable {prog:Program} {w:World} {h₀:Heap} {G:Nat→Option C} {T:Tb} {r:Rec} (S:Snd prog w h₀ G r) (M:Op3 prog w h₀ T)
variable {k:Kn} {env:Env} {A:Around} {σ σ':Wd} {E:Value→Shared→Prop} {N:Nat} {F:Fm} {H H':List O} {pos:Pos} {own:Addr→Prop} {W:Params}
theorem qK:∀ (xs:List Expr),(forIn xs false fun c r=>if r=true then do let ok ← isTrue c env (eval c env);pure (ForInStep.yield ok) else pure (ForInStep.yield r))=(pure false:Sem Bool)
 | []=>rfl
 |y::ys=>by rw [List.forIn_cons];exact qK ys
include S in
theorem uG:∀ {xs:List Expr} {H:List O} {q:KB},alls r (xs.map (cX G N k)) F H q→∀ {σ} {Q:Bool→Shared→Prop},Sit w.params h₀ k env A F σ H→oE w.params h₀ σ q Q→
  wpAny (model prog w) A (forIn xs true fun c r=>if r=true then do let ok ← isTrue c env (eval c env);pure (ForInStep.yield ok) else pure (ForInStep.yield r)) Q E σ.s
 | [],H,q,h,σ,Q,c,post=>wpAny_pure (post true H σ h c.ok.go)
 |x::xs,H,q,h,σ,Q,c,post=>by
  rw [List.forIn_cons]
  refine wpAny_bind (wpAny_bind (S.ts h c fun b H1 σ1 h1 g1=>wpAny_pure ?_))
  rcases b with _ |_
  ·refine (?_:wpAny _ _ (forIn xs false _) _ _ _)
   rw [qK]
   exact wpAny_pure (post false H1 σ1 h1 g1)
  ·exact uG h1 (c.up g1) fun b H2 σ2 h2 g2=>post b H2 σ2 h2 (g1.trans g2)
theorem oH {R:Result→Shared→Prop} {elt target iter:Expr} {ifs:List Expr} {scope:Scope} {it acc:Value} {env:Env} {s:Shared} (I:Nat→Shared→Prop)
  (turn:∀ n s,I n s→wpAny (model prog w) A (pyNext it) (fun r s₁=>match r with
   |none=>R (.ok .next) s₁
   |some v=>wpAny (model prog w) A (letOwnedTupleGo target it v) (fun _ s₁'=>wpAny (model prog w) A (assign target env v) (fun _ s₂=>
     wpAny (model prog w) A (forIn ifs true fun c r=>if r=true then do let ok ← isTrue c env (eval c env);pure (ForInStep.yield ok) else pure (ForInStep.yield r)) (fun ok s₃=>
      cond ok (wpAny (model prog w) A (eval elt env) (fun x s₄=>
       wpAny (model prog w) A (call (.builtin "list.append") [acc,x]) (fun _ s₅=>∃ m,m < n∧I m s₅) (notedBy (model prog w) A env fun e s'=>R (.error e) s') s₄) (notedBy (model prog w) A env fun e s'=>R (.error e) s') s₃)
      (∃ m,m < n∧I m s₃)) (notedBy (model prog w) A env fun e s'=>R (.error e) s') s₂) (notedBy (model prog w) A env fun e s'=>R (.error e) s') s₁') (notedBy (model prog w) A env fun e s'=>R (.error e) s') s₁) (notedBy (model prog w) A env fun e s'=>R (.error e) s') s)
  (n:Nat) (h:I n s):codeAny (model prog w) A (.compLoop (.ListComp elt [⟨target,iter,ifs,0⟩] scope pos) 0 it acc env) R s:=by
 refine codeAny_loop rfl I (fun n s hI=> ?_) n h
 refine (?_:wpAny _ _ ((compTurn (.ListComp elt [⟨target,iter,ifs,0⟩] scope pos) 0 it acc env).onRaise (fun x=>do noteFrame x env;theTreesLotGoes x)) _ _ s)
 refine wpAny_noted ?_
 rw [compTurn_list]
 refine wpAny_bind (wpAny_standAt (wpAny_bind (wpAny_mono (turn n s hI) (fun r s₁ h₁=> ?_) fun _ _ h'=>h')))
 rcases r with _ |v
 ·exact wpAny_pure h₁
 ·refine wpAny_bind (wpAny_mono h₁ (fun _ s₁' h₁'=>wpAny_bind (wpAny_mono h₁' (fun _ s₂ h₂=>wpAny_bind (wpAny_mono h₂ (fun ok s₃ h₃=> ?_) fun _ _ h'=>h')) fun _ _ h'=>h')) fun _ _ h'=>h')
  rcases ok with _ |_
  ·exact wpAny_pure ⟨rfl,h₃⟩
  ·exact wpAny_bind (wpAny_bind (wpAny_mono h₃ (fun x s₄ h₄=>wpAny_bind (wpAny_mono h₄ (fun _ s₅ h₅=>wpAny_pure (wpAny_pure ⟨rfl,h₅⟩)) fun _ _ h'=>h')) fun _ _ h'=>h'))
theorem mW {a:Option NameKind} (h:nkF a=true):a=some .cell∨a=some .free:=by
 rcases a with _ |kd
 ·exact Bool.noConfusion h
 ·rcases kd with _ |_ <;> first |exact .inl rfl |exact .inr rfl |exact Bool.noConfusion h
structure Scp (k:Kn) (sc:Scope) (t:Mine.T):Prop where
 kind:sc.kind= .function
 cell:∀ {x},(x,NameKind.cell)∉sc.names
 free:∀ {x},(x,NameKind.free)∈sc.names→nkF (k x)=true
 loc:∀ {x},(x,NameKind.local)∈sc.names→nkL (kS sc x)=true∧nkF (kS sc x)=false∧mem (enc x) (dot0::eE t)=true
theorem G3 {sc:Scope} {t:Mine.T} (ok:eK k sc t=true):Scp k sc t:=by
 unfold eK at ok
 rw [Bool.and_eq_true,List.all_eq_true] at ok
 refine ⟨?_,fun q=>Bool.noConfusion (ok.2 _ q),fun q=>(Bool.and_eq_true _ _ ▸ (ok.2 _ q:(_ && _)=true)).2,fun {x} q=> ?_⟩
 ·have:=ok.1
  rcases hk:sc.kind with _ |_ <;> rw [hk] at this <;> first |rfl |exact Bool.noConfusion this
 ·have h:=ok.2 _ q
  replace h:(nkL (sc.names.lookup x) && !nkF (sc.names.lookup x) && a6 x && (Nat.beq (enc x) dot0 || mem (enc x) (eE t)))=true:=h
  simp only [Bool.and_eq_true,Bool.or_eq_true,Bool.not_eq_true'] at h
  refine ⟨h.1.1.1,h.1.1.2,mem_iff.mpr ?_⟩
  rcases h.2 with q |q
  ·exact Nat.eq_of_beq_eq_true q ▸ .head _
  ·exact .tail _ (mem_iff.mp q)
theorem Scp.fr {sc:Scope} {t:Mine.T} (c:Scp k sc t) {x:Str} (h:nkF (kS sc x)=true):kS sc x=some .free∧(x,NameKind.free)∈sc.names:=by
 rcases mW h with e |e
 ·exact absurd (cJ e) c.cell
 ·exact ⟨e,cJ e⟩
theorem CZ {sc:Scope} {t:Mine.T} (c:Scp k sc t) {cl:List (Str × Addr)} (hcl:∀ y,(y,NameKind.free)∈sc.names→cl.lookup y=env.cells.lookup y) {C:Addr} {vs:List (Nat × V)} (fr:Frm W k env vs σ) (lx:Le bG σ σ') (hC:σ.sz≤C) (pC:Prv σ' C)
  (hn:σ'.h.Ns C (fun x=>List.lookup x ([]:List (Str × Value)).reverse)):Frm W (kS sc) (compEnvC sc cl C env) (d6 (dot0::eE t) vs) σ':=by
 have kof:∀ {x kd},sc.names.lookup x=some kd→(compEnvC sc cl C env).kindOf x=some (if (kd == NameKind.free && env.scope.kind == .function && env.kindOf x == some .cell) then NameKind.cell else kd):=fun q=>lF q
 have mine:∀ {x a},nkF (kS sc x)=true→cl.lookup x=some a→Mine k env a:=fun h e=>.cel _ _ (c.free (c.fr h).2) ((hcl _ (c.fr h).2).symm.trans e)
 refine ⟨⟨c.kind,fr.st.glo,fr.st.blt,fun x q=>(kof q).trans rfl,fun x q=>absurd (cJ q) c.cell,fun x q=> ?_,fun x q=>(kof q).trans rfl,fun x a h e=> ?_,fun x y a q=>absurd (cJ q) c.cell⟩,⟨_,hn,fun x ox hx v hv=> ?_⟩,fun x hx=> ?_,fun a m=> ?_⟩
 ·rw [kof q]
  rcases (NameKind.free == NameKind.free && env.scope.kind == .function && env.kindOf x == some .cell) with _ |_
  ·exact .inr rfl
  ·exact .inl rfl
 ·exact Nat.ne_of_lt (Nat.lt_of_lt_of_le (fr.own a (mine h e)).lt hC)
 ·have:=(iL hv).1
  rw [(c.loc (cJ hx)).2.2] at this
  exact Bool.noConfusion this
 ·have q:=c.fr hx
  obtain ⟨a,u,e,⟨o,g,d⟩,z⟩:=fr.cell x (c.free q.2)
  exact ⟨a,u,(hcl _ q.2).trans e,⟨o,lx.keep a o g (fr.own a (.cel _ _ (c.free q.2) e)).mu id,d⟩,fun ok v hv=>(z ok v (iL hv).2).mono fun _ _=>lx.tr⟩
 ·rcases m with _ | ⟨x,_,h,e⟩
  ·exact pC
  ·exact (fr.own a (mine h e)).up lx
end
structure Acc (W:Params) (σ:Wd) (D:Addr) (ys:Array Value) (l:List C):Prop where
 pv:Prv σ D
 pl:σ.h.PlainList D ys
 cd:CRs W σ.P l ys.toList
section
variable {prog:Program} {w:World} {h₀:Heap} {G:Nat→Option C} {T:Tb} {r:Rec} (S:Snd prog w h₀ G r) (M:Op3 prog w h₀ T) (I4:Op4 prog w h₀)
variable {k:Kn} {env:Env} {A:Around} {σ σ':Wd} {E:Value→Shared→Prop} {N:Nat} {F:Fm} {H H':List O} {pos:Pos} {own:Addr→Prop} {W:Params}
theorem Acc.up {D:Addr} {ys:Array Value} {l:List C} (a:Acc W σ D ys l) (x:Le own σ σ') (no:¬own D):Acc W σ' D ys l:=⟨a.pv.up x,a.pl.at fun o e=>x.keep D o e a.pv.mu no,bW x.up _ _ a.cd⟩
inductive CInv (prog:Program) (w:World) (h₀:Heap) (T:Tb) (r:Rec) (A:Around) (k:Kn) (env:Env) (e:X) (t:Mine.T) (ts:List X) (q:List C→List O→Prop) (d:Nat) (P:Fz) (cs:List C) (I D:Addr) (fp:List Addr) (StI:Nat→Heap→Prop) (σ:Wd):Nat→Shared→Prop
 |mk (σ':Wd) (F1:Fm) (H1:List O) (i:Nat) (ys:Array Value) (l:List C) (q1:List C→List O→Prop) (hi:i≤cs.length) (hl:comp T r e t ts (cs.drop i) F1 H1 q1) (hq:∀ xs H,q1 xs H→q (l++xs) H) (hd:F1.d=d)
   (g:Go w.params h₀ (fun a=>ownOf k env a∨a=I∨a=D) σ σ' H1) (f:Frm w.params k env F1.vs σ') (tn:Turn prog w A P cs I fp StI σ') (st:StI i σ'.h) (ac:Acc w.params σ' D ys l) (sz:ys.size≤i):
  CInv prog w h₀ T r A k env e t ts q d P cs I D fp StI σ (cs.length - i) σ'.s
include S M in
theorem qM {elt target iter:Expr} {ifs:List Expr} {sc:Scope} {q:List C→List O→Prop} {P:Fz} {cs:List C} {I D:Addr} {fp:List Addr} {StI:Nat→Heap→Prop} (hz:cs.length≤lim)
  (h:comp T r (cX G N k elt) (cT0 (cX G N k) k target) (ifs.map (cX G N k)) cs F H q) (s:Sit w.params h₀ k env A F σ H) (tn:Turn prog w A P cs I fp StI σ) (st:StI 0 σ.h) (noI:∀ a,Mine k env a→a≠I) (noD:∀ a,Mine k env a→a≠D) (ID:D≠I) (ac:Acc w.params σ D #[] []) {R:Result→Shared→Prop}
  (post:∀ xs H' σ' ys m,q xs H'→Go w.params h₀ (fun a=>ownOf k env a∨a=I∨a=D) σ σ' H'→Acc w.params σ' D ys xs→(∀ a,Mine k env a→Prv σ' a)→σ'.h.Ns env.locals m→R (.ok .next) σ'.s):
  codeAny (model prog w) A (.compLoop (.ListComp elt [⟨target,iter,ifs,0⟩] sc pos) 0 (.ref I) (.ref D) env) R σ.s:=by
 refine oH (CInv prog w h₀ T r A k env (cX G N k elt) (cT0 (cX G N k) k target) (ifs.map (cX G N k)) q F.d P cs I D fp StI σ) (fun n s' hI=> ?_) _ (.mk σ F H 0 #[] [] q (Nat.zero_le _) h (fun _ _ e=>e) rfl s.ok.go s.fr tn st ac (Nat.le_refl _))
 induction hI with |mk σ' F1 H1 i ys l q1 hi hl hq hd g f tn st ac sz=> ?_
 rcases Nat.lt_or_ge i cs.length with hlt |hge
 ·rw [List.drop_eq_getElem_cons hlt] at hl
  refine tn.item st g.ok hlt fun v σ2 g2 cr st2=> ?_
  have f2:=f.up g2.le noI
  have tn2:=tn.up' g2.le
  have d2:Room A F1.d:=hd ▸ s.rm
  have ac2:=ac.up g2.le ID
  refine qF (tn.it.cls _ _ st2) (sC S M hl ⟨d2,f2,g2.ok⟩ (v:=.c cs[i]) cr fun F3 H3 σ3 h3 d3 g3 f3=>uG S h3 ⟨d3 ▸ d2,f3,g3.ok⟩ fun b H4 σ4 h4 g4=> ?_)
  have g34:=g3.trans g4.weak
  have s4:Sit w.params h₀ k env A F3 σ4 H4:=⟨d3 ▸ d2,f3.up g4.le fun _ _ q=>q,g4.ok⟩
  have no:∀ {a},ownOf k env a→a≠I∧a≠D:=fun q=>⟨noI _ q.mine,noD _ q.mine⟩
  have ac4:=ac2.up g34.le fun q=>(no q).2 rfl
  have gg:∀ {own σ5 H5},(∀ a,own a→ownOf k env a∨a=I∨a=D)→Go w.params h₀ own σ4 σ5 H5→Go w.params h₀ (fun a=>ownOf k env a∨a=I∨a=D) σ σ5 H5:=fun o g5=>g.trans ((g2.weaken fun _ q=>.inl (.inr (.inl q))).trans ((g34.weaken fun _ q=>.inl (.inl q)).trans (g5.weaken fun a q=>.inl (o a q))))
  have lt:cs.length - (i+1) < cs.length - i:=Nat.sub_lt_sub_left hlt (Nat.lt_succ_self i)
  have st4:=tn2.st st2 g2.ok g34 fun q=>(no q).1 rfl
  rcases b with _ |_
  ·exact ⟨_,lt,.mk σ4 F3 H4 (i+1) ys l q1 hlt h4 hq (d3.trans hd) (gg (own:=bG) (fun _ q=>q.elim) g4.ok.go) s4.fr (tn2.up' g34.le) st4 ac4 (Nat.le_succ_of_le sz)⟩
  ·refine S.ex h4 s4 fun v H5 u σ5 h5 g5 t5=>kCE h5 fun x hx h6=> ?_
   have ac5:=ac4.up g5.le id
   have hsz:ys.size≤sizeLine:=Nat.le_trans sz (Nat.le_trans hi (Nat.le_trans hz (by rw [sizeLine_eq];decide)))
   refine wpAny_list_append_plain (hsz:=hsz) ac5.pl fun h7 pl7 sb7=> ?_
   have g7:Go w.params h₀ (fun a=>a=D) σ5 ⟨σ5.P,σ5.φ,to σ5.s h7 σ5.s.toks⟩ H5:=g5.ok.turn ac5.pv sb7.2 sb7.1 rfl
   have g57:=g5.weak.trans g7
   exact ⟨_,lt,.mk _ F3 H5 (i+1) (ys.push u) (l++[x]) _ hlt h6 (fun xs H e=>by rw [List.append_assoc];exact hq _ _ e) (d3.trans hd) (gg (fun a q=>.inr (.inr q)) g57) (s4.fr.up g57.le noD) ((tn2.up' g34.le).up' g57.le)
    ((tn2.up' g34.le).st st4 g4.ok g57 fun q=>ID q.symm) ⟨ac5.pv.up g7.le,pl7,by rw [Array.toList_push];exact dB ac5.cd (show CRs w.params σ5.P [x] [u] from ⟨u,[],rfl,t5.c hx,rfl⟩)⟩ (Array.size_push .. ▸ Nat.succ_le_succ sz)⟩
 ·have e:i=cs.length:=Nat.le_antisymm hi hge
  rw [e] at st
  rw [List.drop_of_length_le hge] at hl
  refine tn.done st g.ok fun σ2 g2=> ?_
  have f2:=f.up g2.le noI
  obtain ⟨m,n,_⟩:=f2.ns
  exact post _ H1 σ2 ys m (hq [] H1 hl) (g.trans (g2.weaken fun _ q=>.inl (.inr (.inl q)))) ((List.append_nil l).symm ▸ ac.up g2.le ID) f2.own n
include S M in
theorem oJ {elt target iter:Expr} {ifs:List Expr} {sc:Scope} {q:List C→List O→Prop} {P:Fz} {cs:List C} {I:Addr} {fp:List Addr} {StI:Nat→Heap→Prop} (hz:cs.length≤lim) (sp:Scp k sc (cT0 (cX G N (kS sc)) (kS sc) target)) {cl:List (Str × Addr)} (hcl:∀ y,(y,NameKind.free)∈sc.names→cl.lookup y=env.cells.lookup y)
  (h:comp T r (cX G N (kS sc) elt) (cT0 (cX G N (kS sc)) (kS sc) target) (ifs.map (cX G N (kS sc))) cs {F with vs:=d6 (dot0::eE (cT0 (cX G N (kS sc)) (kS sc) target)) F.vs} H q) (s:Sit w.params h₀ k env A F σ H) (tn:Turn prog w A P cs I fp StI σ) (st:StI 0 σ.h) (noI:∀ a,Mine k env a→a≠I)
  {RR:Value→Addr→Result→Shared→Prop} (post:∀ xs H' σ' C D ys m,q xs H'→σ.sz≤C→σ.sz≤D→Go w.params h₀ (fun a=>a=I∨a=C∨a=D) σ σ' H'→Acc w.params σ' D ys xs→D≠C→Prv σ' C→σ'.h.Ns C m→RR (.ref D) C (.ok .next) σ'.s):
  wpAny (model prog w) A (newList []) (fun acc s₃=>wpAny (model prog w) A (newFunctionEnv sc env.globals cl [] env.qual none .none (some env)) (fun cenv s₄=>
   codeAny (model prog w) A (.compStart (.ListComp elt [⟨target,iter,ifs,0⟩] sc pos) 0 (.ref I) acc {cenv with scope:=relabel sc env}) (RR acc cenv.locals) s₄) E s₃) E σ.s:=by
 refine wpAny_newObj_type (wpAny_newFunctionEnv (fun x hx q=>sp.cell (x:=x.1) (q ▸ (hx:(x.1,x.2)∈sc.names))) (by intro y hy;cases hy) (fun h2 hns hsb=> ?_) sp.kind)
 refine (?_:codeAny _ _ (.compStart _ _ _ _ (compEnvC sc cl _ env)) _ _)
 generalize hC:(σ.h.push {cls:=.type "list",dict:=none,data:=.seq ([]:List Value).toArray}).objs.size=C at hns hsb ⊢
 have hC':C=σ.sz+1:=hC.symm.trans (Heap.size_push ..)
 have DC:σ.sz≠C:=hC' ▸ Nat.ne_of_lt (Nat.lt_succ_self _)
 have sz2:h2.objs.size=C+1:=hsb.1.trans ((Heap.size_push ..).trans (congrArg (·+1) hC))
 have kp:∀ b o,b≠C→(σ.h.push {cls:=.type "list",dict:=none,data:=.seq ([]:List Value).toArray}).get? b=some o→h2.get? b=some o:=fun b o ne e=>hsb.extBut b o ne (Heap.get?_push_of_some _ e)
 have kk:Kept σ.h h2:=fun b o e=>kp b o (fun q=>by rw [q,hC'] at e;exact dT e (Nat.le_succ _)) (Heap.get?_push_of_some _ e)
 have le:σ.sz≤h2.objs.size:=by rw [sz2,hC'];exact Nat.le_add_right _ 2
 have g0:Go w.params h₀ bG σ ⟨σ.P,σ.φ,to σ.s h2 σ.s.toks⟩ H:=s.ok.grow0 (fun b o _ e=>kk b o e) (fun _ q=>q.elim) le
 have hC2:σ.sz≤C:=hC' ▸ Nat.le_succ _
 have pC:Prv ⟨σ.P,σ.φ,to σ.s h2 σ.s.toks⟩ C:=s.ok.prv hC2 (by rw [sz2];exact Nat.lt_succ_self _)
 have pD:Prv ⟨σ.P,σ.φ,to σ.s h2 σ.s.toks⟩ σ.sz:=s.ok.prv (Nat.le_refl _) (by rw [sz2,hC'];exact Nat.lt_succ_of_lt (Nat.lt_succ_self _))
 have fr:=CZ sp hcl s.fr g0.le hC2 pC hns
 have mine:∀ a,Mine (kS sc) (compEnvC sc cl C env) a→a=C∨Mine k env a:=fun a m=>by
  rcases m with _ | ⟨x,_,h,e⟩
  ·exact .inl rfl
  ·exact .inr (.cel x a (sp.free (sp.fr h).2) ((hcl _ (sp.fr h).2).symm.trans e))
 have own:∀ a,ownOf (kS sc) (compEnvC sc cl C env) a→a=C:=fun a m=>by
  rcases m with _ | ⟨x,_,h,e⟩
  ·rfl
  ·exact absurd (cJ h) sp.cell
 have ltI:=tn.pv.lt
 have tn2:=tn.up' g0.le
 have st2:=tn.st st s.ok g0 id
 have loop:codeAny (model prog w) A (.compLoop (.ListComp elt [⟨target,iter,ifs,0⟩] sc pos) 0 (.ref I) (.ref σ.sz) (compEnvC sc cl C env)) (RR (.ref σ.sz) C) (to σ.s h2 σ.s.toks):=
  qM (σ:=⟨σ.P,σ.φ,to σ.s h2 σ.s.toks⟩) S M hz h ⟨s.rm,fr,g0.ok⟩ tn2 st2 (fun a m=>(mine a m).elim (fun e=>e ▸ (Nat.ne_of_lt (Nat.lt_of_lt_of_le ltI hC2)).symm) (noI a)) (fun a m=>(mine a m).elim (fun e=>e ▸ DC.symm) fun m=>Nat.ne_of_lt (s.fr.own a m).lt) (Nat.ne_of_lt ltI).symm
   ⟨pD,⟨0,kp _ _ DC (Heap.get?_push_size _ rfl)⟩,rfl⟩ fun xs H' σ' ys m hq g ac pv n=>post xs H' σ' C σ.sz ys m hq hC2 (Nat.le_refl _) (g0.weak.trans (g.weaken fun a q=>.inl (q.elim (fun q=>.inr (.inl (own a q))) (Or.imp id fun q=>.inr q)))) ac DC (pv C .loc) n
 exact codeAny_compStart_list loop (tn2.it.walks.self 0 _ _ _ st2 loop)
theorem yH {elt:Expr} {gs:List Comprehension} {sc:Scope}:(one? gs).elim X.bad (cG (cX G N) k elt sc)= .bad∨∃ target iter ifs,gs=[⟨target,iter,ifs,0⟩]∧eK k sc (cT0 (cX G N (kS sc)) (kS sc) target)=true∧
  (one? gs).elim X.bad (cG (cX G N) k elt sc)= .com (cX G N (kS sc) elt) (cT0 (cX G N (kS sc)) (kS sc) target) (cX G N k iter) (ifs.map (cX G N (kS sc))):=by
 rcases gs with _ | ⟨⟨t,it,cs,a⟩,gs⟩
 ·exact .inl rfl
 rcases gs with _ |_
 ·refine (?_:gX (decide (a=0) && eK k sc (cT0 (cX G N (kS sc)) (kS sc) t)) _=X.bad∨∃ target iter ifs,_∧_∧gX (decide (a=0) && eK k sc (cT0 (cX G N (kS sc)) (kS sc) t)) _=X.com _ _ _ _)
  rcases hb:decide (a=0) && eK k sc (cT0 (cX G N (kS sc)) (kS sc) t) with _ |_
  ·exact .inl rfl
  ·rw [Bool.and_eq_true,decide_eq_true_eq] at hb
   exact .inr ⟨t,it,cs,hb.1 ▸ rfl,hb.2,rfl⟩
 ·exact .inl rfl
include S M I4 in
theorem yI {elt target iter:Expr} {ifs:List Expr} {sc:Scope} {q:List C→List O→Prop} (ok:eK k sc (cT0 (cX G N (kS sc)) (kS sc) target)=true)
  (h:com T r (cX G N (kS sc) elt) (cT0 (cX G N (kS sc)) (kS sc) target) (cX G N k iter) (ifs.map (cX G N (kS sc))) F H q) (s:Sit w.params h₀ k env A F σ H) {use:Option (Value→Sem Unit)} {Q:Value→Shared→Prop} {ip:Pos}
  (post:∀ xs H' σ' C D m,q xs H'→σ.sz≤C→Go w.params h₀ bG σ σ' H'→TR w.params σ'.P σ'.φ (.c (.lst xs)) (.ref D)→D≠C→Prv σ' C→σ'.h.Ns C m→compPost (model prog w) A E use Q (.ref D) C (.ok .next) σ'.s):
  wpAny (model prog w) A (comprehension (.ListComp elt [⟨target,iter,ifs,0⟩] sc pos) sc env ip (newList []) false (eval iter env) use) Q E σ.s:=by
 have sp:=G3 ok
 obtain ⟨cl,hclos,hcl⟩:=sE (scope:=sc) (env:=env) fun y hy=>let ⟨c,_,e,_,_⟩:=s.fr.cell y (sp.free hy);⟨c,e⟩
 have hs:∀ x,foldedSetIterable iter env x=pure x:=fun x=>by
  rcases iter with _ |_ <;> first |exact rfl | (exfalso;rcases N with _ |_ <;> exact S.bad h)
 refine wpAny_comprehension_free (g:=⟨target,iter,ifs,0⟩) (gs:=[]) rfl hs hclos sp.kind (fun x hx e=> ?_) (S.ex h s fun v H1 u σ1 h1 g1 t1=>kCE h1 fun c hc h2=>ooE h2 fun l hl h3=>kBE h3 fun hz h4=> ?_)
 ·have q:=(sp.loc (x:=x.1) (e ▸ (hx:(x.1,x.2)∈sc.names)))
  have nk:∀ {a:Option NameKind},nkL a=true→nkF a=false→a=some .local:=fun {a} h1 h2=>by
   rcases a with _ |kd
   ·exact Bool.noConfusion h1
   ·rcases kd with _ |_ <;> first |rfl |exact Bool.noConfusion h1 |exact Bool.noConfusion h2
  exact nk q.1 q.2.1
 ·have s1:=s.up g1
  refine I4.iter hl s.rm.handled g1.ok.kept g1.ok.inh (t1.c hc) fun I fp StI h2 tk2 It sti kp sz hI hfp=> ?_
  obtain ⟨_,_,gI,_⟩:=It.cls _ _ sti
  have g2:Go w.params h₀ bG σ1 ⟨σ1.P,σ1.φ,to σ1.s h2 tk2⟩ H1:=g1.ok.grow0 (fun b o _ e=>kp b o e) (fun _ q=>q.elim) sz
  refine oJ (σ:=⟨σ1.P,σ1.φ,to σ1.s h2 tk2⟩) S M (Nat.le_of_ble_eq_true hz) sp hcl h4 (s1.up g2) ⟨It,fun _ _ e=>e,hfp,g1.ok.prv hI (Heap.lt_size gI)⟩ sti (fun a m=>Nat.ne_of_lt (Nat.lt_of_lt_of_le (s1.fr.own a m).lt hI)) fun xs H' σ' C D ys m hq hC hD g ac DC pC n=> ?_
  have le2:=Nat.le_trans g1.le.size g2.le.size
  have gg:Go w.params h₀ bG σ σ' H':=((g1.trans g2).weak.trans g).weaken fun a q=>.inr (q.elim (fun e=>e ▸ Nat.le_trans g1.le.size hI) fun q=>Nat.le_trans le2 (q.elim (fun e=>e ▸ hC) fun e=>e ▸ hD))
  obtain ⟨nn,pl⟩:=ac.pl
  refine post xs H' ⟨Fr σ'.P D _,σ'.φ,σ'.s⟩ C D m hq (Nat.le_trans le2 hC) (gg.freeze (Nat.le_trans le2 hD) pl ac.pv.mu) ⟨D,_,ys,nn,rfl,.inr ⟨rfl,rfl⟩,rfl,rfl,bW (fun _ _=>.inl) _ _ ac.cd⟩ DC ⟨pC.mu,fun o q=>q.elim (pC.fz o) fun e=>DC e.1.symm,pC.lt⟩ n
include S M I4 in
theorem KT {elt:Expr} {gs:List Comprehension} {sc:Scope} {q:KV} {Q:Value→Shared→Prop} (h:cU T r ((one? gs).elim .bad (cG (cX G N) k elt sc)) F H q) (s:Sit w.params h₀ k env A F σ H) (post:Sat w.params h₀ σ q Q):wpAny (model prog w) A (eval (.ListComp elt gs sc pos) env) Q E σ.s:=by
 rcases yH (G:=G) (N:=N) (k:=k) (elt:=elt) (gs:=gs) (sc:=sc) with e | ⟨target,iter,ifs,eg,ok,e⟩
 ·rw [e] at h;exact h.elim
 rw [e] at h
 clear e
 subst eg
 rw [arm_eval_ListComp]
 exact yI (use:=none) S M I4 ok h s fun xs H' σ' C D m hq hC g t DC pC n=>⟨m,n,fun h'' hs=>post _ H' _ ⟨σ'.P,σ'.φ,to σ'.s h'' σ'.s.toks⟩ hq ((g.weak.trans (g.ok.turn (own:=fun a=>a=C) pC hs.2 hs.1 rfl)).weaken fun a e=>.inr (e ▸ hC)) t⟩
include S M I4 in
theorem NE {x:Str} {xp spos:Pos} {elt:Expr} {gs:List Comprehension} {sc:Scope} {q:KF} {Q:Flow→Shared→Prop} (ok:a6 x=true) (hk:nkL (k x)=true) (h:c4 T r (EN (enc x) ((one? gs).elim .bad (cG (cX G N) k elt sc))) F H q) (s:Sit w.params h₀ k env A F σ H)
  (post:SatF w.params h₀ k env σ F.d q Q):wpAny (model prog w) A (exec (.Assign [.Name x xp] (.ListComp elt gs sc pos) spos) env) Q E σ.s:=by
 obtain ⟨b,hb⟩:∃ b,swapsWith (.ListComp elt gs sc pos) (some (.Name x xp)) spos.line env=pure b:=⟨_,rfl⟩
 rcases yH (G:=G) (N:=N) (k:=k) (elt:=elt) (gs:=gs) (sc:=sc) with e | ⟨target,iter,ifs,eg,okc,e⟩
 ·rw [e] at h;exact h.elim
 rcases b with _ |_
 ·refine wpAny_Assign_Name (KT (N:=N) (q:=fun v H=>q .nx {F with vs:=put (enc x) v F.vs} H) S M I4 ?_ s fun v H1 u σ1 hq g1 t1=>qJ ok hk (s.up g1).fr g1.ok t1 fun σ2 g2 f2=>post .nx _ H1 .next σ2 hq rfl (g1.weak.trans g2) f2 rfl) hb
  rw [e] at h ⊢
  exact h
 ·rw [exec_Assign_Name_used _ _ _ _ hb]
  rw [e] at h
  clear e
  subst eg
  refine wpAny_bind (wpAny_standAt (wpAny_bind (wpAny_bind ?_)))
  refine wpAny_mono (yI (use:=some (assign (.Name x xp) env)) (Q:=fun _ s'=>Q .next s') S M I4 okc h s fun xs H' σ' C D m hq hC g t DC pC n=> ?_) (fun _ s' hq=>wpAny_pure (wpAny_pure hq)) fun _ _ e=>e
  refine (?_:wpAny _ A (assign (.Name x xp) env (.ref D)) _ _ _)
  have s1:=s.up g
  have nC:¬ownOf k env C:=fun q=>Nat.not_lt.mpr hC (s.fr.own C q.mine).lt
  refine wpAny_assign_Name (qJ ok hk s1.fr g.ok t fun σ2 g2 f2=>⟨m,n.at fun o e=>g2.le.keep C o e pC.mu nC,fun h3 hs3=> ?_⟩)
  have g3:Go w.params h₀ (fun a=>ownOf k env a∨a=C) σ2 ⟨σ2.P,σ2.φ,to σ2.s h3 σ2.s.toks⟩ H':=g2.ok.turn (pC.up g2.le) hs3.2 hs3.1 (.inr rfl)
  have ne:∀ a,Mine k env a→¬a=C:=fun a m e=>Nat.not_lt.mpr hC (e ▸ (s.fr.own a m).lt)
  exact post .nx _ H' .next _ hq rfl ((g.weak.trans ((g2.weaken fun _ q=>.inl (.inl q)).trans g3)).weaken fun a q=>q.imp id fun (e:a=C)=>e ▸ hC) (f2.up (g2.ok.turn (own:=fun a=>a=C) (pC.up g2.le) hs3.2 hs3.1 rfl).le ne) rfl
end
section
variable {prog:Program} {w:World} {h₀:Heap} {G:Nat→Option C} {T:Tb} {r:Rec} (S:Snd prog w h₀ G r) (B:Base prog w h₀ G) (K:Op1 prog w h₀ T) (L:Op2 prog w h₀) (M:Op3 prog w h₀ T) (I4:Op4 prog w h₀) (D5:Op5 prog w)
variable {k:Kn} {env:Env} {A:Around} {σ σ':Wd} {E:Value→Shared→Prop} {N:Nat} {F:Fm} {H H':List O} {pos:Pos} {own:Addr→Prop} {W:Params}
include S D5 in
theorem NF {ks:List (Option Expr)} {vs:List Expr} {q:KV} {Q:Value→Shared→Prop} (h:cU T r (.dct (ks.map (oB (cX G N k))) (vs.map (cX G N k))) F H q) (s:Sit w.params h₀ k env A F σ H) (post:Sat w.params h₀ σ q Q):wpAny (model prog w) A (eval (.Dict ks vs pos) env) Q E σ.s:=by
 rcases ks with _ | ⟨ke,ks⟩
 ·rcases vs with _ |_
  ·exact KO h s post
  ·exact h.elim
 ·rcases ks with _ |_
  ·rcases vs with _ | ⟨ve,vs⟩
   ·exact h.elim
   ·rcases vs with _ |_
    ·rcases ke with _ |ke
     ·exact (S.bad h).elim
     ·exact KP S D5 h s post
    ·exact h.elim
  ·exact h.elim
include S B K L M I4 D5 in
theorem KU {x:Expr} {q:KV} {Q:Value→Shared→Prop} (h:cU T r (cX G N k x) F H q) (s:Sit w.params h₀ k env A F σ H) (post:Sat w.params h₀ σ q Q):wpAny (model prog w) A (eval x env) Q E σ.s:=by
 rcases N with _ |N
 ·exact h.elim
 rcases x with _ |_ <;> first
  |exact h.elim
  |exact MZ S K h s post
  |exact MV h s post
  |exact KH B h s post
  |exact M1 S h s post
  |exact M3 S K h s post
  |exact NA S K L h s post
  |exact M5 S K h s post
  |exact M8 S K h s post
  |exact MX S h s post
  |exact MY S h s post
  |exact KT S M I4 h s post
  |exact NF S D5 h s post
  |exact (arm_eval_BoolOp ▸ oG S K h s post)
  |skip
 ·rw [arm_eval_BoolOp]
  exact oG S K h s post
 ·rename_i op e p
  rcases op with _ |_ <;> first |exact M0 S K h s post |exact h.elim
theorem gM {b:Bool} {e:X} (h:fX e=true):fX (gX b e)=true:=by
 rcases b with _ |_
 ·rfl
 ·exact h
theorem C0 {x:Str}:fX (cN G k x)=true:=by
 refine gM ?_
 rcases nkL (k x) || nkF (k x) with _ |_
 ·rcases nkG (k x) with _ |_
  ·rfl
  ·rcases G (enc x) with _ |_ <;> rfl
 ·rfl
include S K in
theorem G4 {x:Expr} {q:KB} {Q:Bool→Shared→Prop} (h:fJ r (cX G N k x) F H q) (hp:fX (cX G N k x)=true) (he:isTrue x env (eval x env)=(do let v ← eval x env;standAt x.pos;holding [v] (truthy v))) (s:Sit w.params h₀ k env A F σ H) (post:oE w.params h₀ σ q Q):
  wpAny (model prog w) A (isTrue x env (eval x env)) Q E σ.s:=
 wpAny_isTrue_value (S.ex ((pG hp:fJ r _ F H q=_) ▸ h:tsV r (cX G N k x) F H q) s fun v H1 u σ1 h1 g1 t1=>ooE h1 fun b hb hq=>yB K hb g1.ok t1 fun σ2 g2=>post b H1 σ2 hq (g1.trans g2)) he
include S K in
theorem KW {x:Expr} {q:KB} {Q:Bool→Shared→Prop} (h:fJ r (cX G N k x) F H q) (s:Sit w.params h₀ k env A F σ H) (post:oE w.params h₀ σ q Q):wpAny (model prog w) A (isTrue x env (eval x env)) Q E σ.s:=by
 rcases N with _ |N
 ·exact (S.bad h).elim
 have pl:fX (cX G (N+1) k x)=true→isTrue x env (eval x env)=(do let v ← eval x env;standAt x.pos;holding [v] (truthy v))→wpAny (model prog w) A (isTrue x env (eval x env)) Q E σ.s:=fun hp he=>G4 S K h hp he s post
 rcases x with _ |_ <;> first
  |exact (S.bad h).elim
  |exact pl rfl rfl
  |exact pl (gM rfl) rfl
  |exact pl C0 rfl
  |exact M2 S h s post
  |exact M4 S K h s post
  |exact wpAny_isTrue_BoolOp (r9 S h s post)
  |skip
 ·rename_i op e p
  rcases op with _ |_ <;> first |exact PySem.wpAny_isTrue_Not (S.ts h s fun b H1 σ1 h1 g1=>post _ H1 σ1 h1 g1) |exact pl rfl rfl
 ·refine pl ?_ rfl
  rename_i el gs sc p
  rcases gs with _ | ⟨⟨t,it,cs,a⟩,_ |_⟩ <;> first |exact rfl |exact gM rfl
 ·rename_i f as ks p
  refine pl (gM ?_) rfl
  rcases s8 f with _ | ⟨_,_,_⟩ <;> first |exact rfl |exact gM rfl
 ·rename_i c _ p
  refine pl ?_ rfl
  rcases c with _ |_ <;> rfl
 ·rename_i o i p
  refine pl (?_:fX (match nE i with
   |some (lo,hi,st,_)=>gX st.isNone (.sli (cX G N k o) (oX (cX G N k) lo) (oX (cX G N k) hi))
   |none=>.idx (cX G N k o) (cX G N k i))=true) rfl
  rcases nE i with _ | ⟨_,_,_,_⟩ <;> first |exact rfl |exact gM rfl
end
section
variable {prog:Program} {w:World} {h₀:Heap} {G:Nat→Option C} {T:Tb} {r:Rec} (S:Snd prog w h₀ G r) (B:Base prog w h₀ G) (K:Op1 prog w h₀ T) (L:Op2 prog w h₀) (M:Op3 prog w h₀ T) (I4:Op4 prog w h₀) (D5:Op5 prog w)
variable {k:Kn} {env:Env} {A:Around} {σ σ':Wd} {E:Value→Shared→Prop} {N:Nat} {F:Fm} {H H':List O} {pos:Pos} {own:Addr→Prop} {W:Params} {q:KF} {Q:Flow→Shared→Prop}
theorem lG {R:Result→Shared→Prop} {test:Expr} {body orelse:List Stmt} {s:Shared}
  (h:wpAny (model prog w) A (isTrue test env (eval test env)) (fun b s₂=>
    cond b (wpAny (model prog w) A (execs body env) (fun f s₃=>match f with
      | .next | .cont=>codeAny (model prog w) A (.whileLoop test body orelse env) R s₃
      | .brk=>R (.ok .next) s₃
      | .ret v=>R (.ok (.ret v)) s₃) (notedBy (model prog w) A env fun e s'=>R (.error e) s') s₂)
    (wpAny (model prog w) A (execs orelse env) (fun f s₃=>R (.ok f) s₃) (notedBy (model prog w) A env fun e s'=>R (.error e) s') s₂))
    (notedBy (model prog w) A env fun e s'=>R (.error e) s') s):codeAny (model prog w) A (.whileLoop test body orelse env) R s:=by
 refine codeAny_of_tree ?_
 refine (?_:wpAny _ A ((whileTurn test body orelse env).onRaise (fun x=>do noteFrame x env;theTreesLotGoes x)) _ _ s)
 refine wpAny_noted ?_
 simp only [whileTurn]
 refine wpAny_bind (wpAny_mono h (fun b s₂ h₂=> ?_) fun _ _ h'=>h')
 rcases b with _ |_
 ·exact wpAny_bind (wpAny_mono h₂ (fun f s₃ h₃=>wpAny_pure h₃) fun _ _ h'=>h')
 ·refine wpAny_bind (wpAny_mono h₂ (fun f s₃ h₃=> ?_) fun _ _ h'=>h')
  rcases f with _ |_ |_ |_ <;> first |exact wpAny_pure ⟨rfl,h₃⟩ |exact wpAny_pure h₃
theorem SatF.of {F':Fm} {H1:List O} (g:Go w.params h₀ (ownOf k env) σ σ' H1) (d:F'.d=F.d) (post:SatF w.params h₀ k env σ F.d q Q):SatF w.params h₀ k env σ' F'.d q Q:=fun fl F2 H2 f σ2 h d2 g2 f2 rl=>post fl F2 H2 f σ2 h (d2.trans d) (g.trans g2) f2 rl
include S in
theorem G5 {x:Expr} {bs:List Stmt} (h:tC r (cX G 20 k x) (bs.map (cS G k N)) F H q) (s:Sit w.params h₀ k env A F σ H) (post:SatF w.params h₀ k env σ F.d q Q):codeAny (model prog w) A (.whileLoop x bs [] env) (fun r s'=>match r with | .ok f=>Q f s' | .error e=>E e s') σ.s:=by
 refine lG (S.ts h s fun b H1 σ1 h1 g1=> ?_)
 have s1:=s.up g1
 rcases b with _ |_
 ·exact wpAny_execs_nil (post .nx F H1 .next σ1 h1 rfl g1.weak s1.fr rfl)
 ·refine jB S h1 s1 fun fl F2 H2 f σ2 h2 d2 g2 f2 rl=> ?_
  have g:=g1.weak.trans g2
  rcases fl with _ |_ |v
  ·cases rl
   exact S.whl h2 ⟨d2 ▸ s.rm,f2,g2.ok⟩ (post.of g d2)
  ·cases rl
   exact post .nx F2 H2 .next σ2 h2 d2 g f2 rfl
  ·obtain ⟨u,rfl,t⟩:=rl
   exact post (.rt v) F2 H2 (.ret u) σ2 h2 d2 g f2 ⟨u,rfl,t⟩
theorem gSE {b:Bool} {e:Mine.S} {g:Prop} (h:c4 T r (gS b e) F H q) (f:b=true→c4 T r e F H q→g):g:=by
 rcases b with _ |_
 ·exact h.elim
 ·exact f rfl h
include S in
theorem NG {e:Expr} (h:c4 T r (gS (!o7 (ak e) && nbX (cX G N k e)) (.exp (cX G N k e))) F H q) (s:Sit w.params h₀ k env A F σ H) (post:SatF w.params h₀ k env σ F.d q Q):wpAny (model prog w) A (exec (.Expr e pos) env) Q E σ.s:=by
 refine gSE h fun hn h=>wpAny_Expr (S.ex h s fun v H1 u σ1 h1 g1 t1=>kBE h1 fun hv h2=> ?_) (by simp [interactive,s.fr.st.kind]) ?_
 ·have p:=post .nx F H1 .next σ1 h2 rfl g1.weak (s.up g1).fr rfl
  clear h1
  rcases v with c |_ |_
  ·rcases c with _ |_ <;> first |exact Bool.noConfusion hv |skip
   ·subst t1;exact p
   ·subst t1;exact p
   ·obtain ⟨t,rfl⟩:=t1;exact p
  ·exact Bool.noConfusion hv
  ·exact Bool.noConfusion hv
 ·clear h
  rcases e with _ |_ <;> first |exact rfl |exact Bool.noConfusion hn | (rcases N with _ |_ <;> exact Bool.noConfusion hn)
include S in
theorem NH {e:Option Expr} (h:c4 T r (.ret (oX (cX G N k) e)) F H q) (s:Sit w.params h₀ k env A F σ H) (post:SatF w.params h₀ k env σ F.d q Q):wpAny (model prog w) A (exec (.Return e pos) env) Q E σ.s:=by
 rcases e with _ |e
 ·exact wpAny_Return_none (post _ F H (.ret .none) σ (S.con h) rfl s.ok.go s.fr ⟨.none,rfl,rfl⟩)
 ·exact wpAny_Return_some (S.ex h s fun v H1 u σ1 h1 g1 t1=>post (.rt v) F H1 (.ret u) σ1 h1 rfl g1.weak (s.up g1).fr ⟨u,rfl,t1⟩)
theorem yJ {e:Expr} {t:Option Expr} {l:Nat} (nb:nbX (cX G N k e)=true) (hc:o7 (ak e)=false):swapsWith e t l env=pure false:=by
 rcases e with _ |_ <;> first |exact rfl |exact Bool.noConfusion hc | (rcases N with _ |_ <;> exact Bool.noConfusion nb)
include S M in
theorem C1 {tx e:Expr} (h:c4 T r (.asg (cT0 (cX G N k) k tx) (cX G N k e)) F H q) (hsw0:nbX (cX G N k e)=true→swapsWith e (some tx) pos.line env=pure false) (hsw:swappedStores [tx] e env=pure none)
  (hst:assignEach [tx] env=[(false,assign tx env)]) (s:Sit w.params h₀ k env A F σ H) (post:SatF w.params h₀ k env σ F.d q Q):wpAny (model prog w) A (exec (.Assign [tx] e pos) env) Q E σ.s:=by
 rw [arm_exec_Assign]
 refine wpAny_bind (wpAny_standAt (wpAny_bind (wpAny_of_eq (hsw0 (S.nb h)) ?_)))
 rw [if_neg (by decide)]
 refine wpAny_bind (S.ex h s fun v H1 u σ1 h1 g1 t1=> ?_)
 rw [hsw,hst]
 refine wpAny_bind (wpAny_pure (?_:wpAny _ A (do assignAll u [assign tx env];pure .next) Q E _))
 exact wpAny_bind (sC S M h1 (s.up g1) t1 fun F2 H2 σ2 h2 d2 g2 f2=>wpAny_pure (post .nx F2 H2 .next σ2 h2 d2 (g1.weak.trans g2) f2 rfl))
theorem oK {n:Nat} {p:Addr × Addr} (k:Ok W h₀ σ H) {s:Shared} {P:Fz} (e:n=H.length):TR W P (σ.φ++[p]) (.r n) (.ref p.1):=⟨p,by rw [e,← k.len];exact List.getElem?_concat_length,rfl⟩
include S in
theorem NI {x:Str} {xp lp:Pos} {es:List Expr} (ok:a6 x=true) (hk:nkL (k x)=true) (h:c4 T r (gS (few es) (.mls (enc x) (es.map (cX G N k)))) F H q) (s:Sit w.params h₀ k env A F σ H) (post:SatF w.params h₀ k env σ F.d q Q):
  wpAny (model prog w) A (exec (.Assign [.Name x xp] (.List es lp) pos) env) Q E σ.s:=by
 refine gSE h fun hf h=>wpAny_Assign_Name (wpAny_List (jA S h s fun vs H1 us σ1 h1 g1 t1 hl=>ooE h1 fun cs ha hq=>⟨hl ▸ r8 hf,?_⟩))
 have g2:Go w.params h₀ bG σ1 ⟨σ1.P,σ1.φ++[(σ1.sz,σ1.sz)],to σ1.s (σ1.h.push {cls:=.type "list",data:=.seq us.toArray}) σ1.s.toks⟩ (H1++[.lst cs]):=
  g1.ok.make (a8 _) (aU _) (fun a q=>Nat.le_of_eq (q.elim id id).symm) (.lst (Heap.get?_push_size _ rfl) (eW t1 ha))
 exact qJ ok hk ((s.up g1).up g2).fr g2.ok (oK (s:=σ1.s) g1.ok rfl) fun σ3 g3 f3=>post .nx _ _ .next σ3 hq rfl ((g1.trans g2).weak.trans g3) f3 rfl
theorem NJ {x:Str} {xp lp:Pos} (ok:a6 x=true) (hk:nkL (k x)=true) (h:c4 T r (.mdc (enc x)) F H q) (s:Sit w.params h₀ k env A F σ H) (post:SatF w.params h₀ k env σ F.d q Q):wpAny (model prog w) A (exec (.Assign [.Name x xp] (.Dict [] [] lp) pos) env) Q E σ.s:=by
 refine wpAny_Assign_Name (wpAny_Dict_empty ?_)
 have g2:Go w.params h₀ bG σ ⟨σ.P,σ.φ++[(σ.sz,σ.sz)],to σ.s (σ.h.push {cls:=.type "dict",data:=.dict #[]}) σ.s.toks⟩ (H++[.dcs []]):=
  s.ok.make (a8 _) (aU _) (fun a q=>Nat.le_of_eq (q.elim id id).symm) (.dcs (Heap.get?_push_size _ rfl) (new1 s.ok) rfl)
 exact qJ ok hk (s.up g2).fr g2.ok (oK (s:=σ.s) s.ok rfl) fun σ3 g3 f3=>post .nx _ _ .next σ3 h rfl (g2.weak.trans g3) f3 rfl
theorem yK {H:List O} {n:Nat} {l:List C} (h:rL H (.r n)=some l):H[n]? =some (.dcs [])∧l=[]:=by
 obtain ⟨o,ho,h⟩:=bM h
 rcases o with _ |l |_
 ·exact nn h
 ·rcases l with _ |_
  ·exact ⟨ho,(Option.some.inj h).symm⟩
  ·exact nn h
 ·exact nn h
include S M I4 in
theorem NK {tx itx:Expr} {body:List Stmt} {N':Nat} (h:c4 T r (.lop (cT0 (cX G N k) k tx) (cX G N k itx) (body.map (cS G k N'))) F H q) (s:Sit w.params h₀ k env A F σ H) (post:SatF w.params h₀ k env σ F.d q Q):wpAny (model prog w) A (exec (.For tx itx body [] pos) env) Q E σ.s:=by
 have hs:∀ x,foldedSetIterable itx env x=pure x:=fun x=>by
  rcases itx with _ |_ <;> first |exact rfl | (exfalso;rcases N with _ |_ <;> exact S.bad h)
 refine wpAny_For (S.ex h s fun v H1 u σ1 h1 g1 t1=>ooE h1 fun l hl h2=> ?_) hs
 have s1:=s.up g1
 clear h h1
 rcases v with x |m |_
 ·refine I4.iter hl s.rm.handled g1.ok.kept g1.ok.inh t1 fun I fp StI h3 tk3 It sti kp sz hI hfp=> ?_
  obtain ⟨_,_,gI,_⟩:=It.cls _ _ sti
  have g3:Go w.params h₀ bG σ1 ⟨σ1.P,σ1.φ,to σ1.s h3 tk3⟩ H1:=g1.ok.grow0 (fun b o _ e=>kp b o e) (fun _ q=>q.elim) sz
  refine sD (σ:=⟨σ1.P,σ1.φ,to σ1.s h3 tk3⟩) S M h2 (s1.up g3) ⟨It,fun _ _ e=>e,hfp,g1.ok.prv hI (Heap.lt_size gI)⟩ sti (fun a m=>Nat.ne_of_lt (Nat.lt_of_lt_of_le (s1.fr.own a m).lt hI)) fun fl F' H' f σ' hq d g f rl=> ?_
  exact post fl F' H' _ σ' hq d (((g1.trans g3).weak.trans g).weaken fun a q=>q.imp id fun (e:a=I)=>e ▸ Nat.le_trans g1.le.size hI) f rl
 ·obtain ⟨hm,rfl⟩:=yK hl
  obtain ⟨p,hp,rfl⟩:=t1
  obtain ⟨es,nn',g,ne,cr,_⟩:=(g1.ok.obj hp hm).d
  cases Array.toList_eq_nil_iff.mp cr
  refine I4.iterD s.rm.handled g1.ok.kept ne g fun I h3 tk3 kp sz hI hcls hnext hself=> ?_
  refine codeAny_forLoop_any (fun n s'=>s'=to σ1.s h3 tk3) (fun n s' e=> ?_) 0 rfl
  subst e
  refine aV (hnext fun h4 tk4 k4 sz4=>wpAny_execs_nil ?_)
  have g4:Go w.params h₀ bG σ1 ⟨σ1.P,σ1.φ,to σ1.s h4 tk4⟩ H1:=g1.ok.grow0 (fun b o _ e=>k4 b o (fun q=>dT (q ▸ e) hI) (kp b o e)) (fun _ q=>q.elim) (Nat.le_trans sz sz4)
  exact post .nx F H1 .next _ h2 rfl (g1.trans g4).weak (s1.up g4).fr rfl
 ·exact nn hl
theorem E4 {b:Bool} {t:Mine.T} (h:nmT t=none):nmT (gT' b t)=none:=by
 rcases b with _ |_
 ·rfl
 ·exact h
theorem G6 {cx:Expr→X} {t:Mine.T} {e:Expr} (hn:nmT t=none) (h:c4 T r (cAs cx t e) F H q):c4 T r (gS (nbT t && ((tpT t).isNone || plA (ak e))) (.asg t (cx e))) F H q:=by
 unfold cAs at h
 rw [hn] at h
 exact h
theorem C2 {e:Expr} (nb:nbX (cX G N k e)=true) {o:Expr} {a:Str} {p:Pos} {l:Nat}:swapsWith e (some (.Attribute o a p)) l env=pure false:=by
 rcases e with _ |_ <;> first |exact rfl | (rcases N with _ |_ <;> exact Bool.noConfusion nb)
theorem C3 {e:Expr} (nb:nbX (cX G N k e)=true) {o i:Expr} {p:Pos} {l:Nat}:swapsWith e (some (.Subscript o i p)) l env=pure false:=by
 rcases e with _ |_ <;> first |exact rfl | (rcases N with _ |_ <;> exact Bool.noConfusion nb)
theorem yL {tx e:Expr} (h:plA (ak e)=true):swappedStores [tx] e env=pure none:=by
 rcases tx with _ |_ <;> first |exact rfl | (rcases e with _ |_ <;> first |exact rfl |exact Bool.noConfusion h)
theorem C4 {a:AK} (h:plA a=true):o7 a=false:=by
 rcases a with _ |_ <;> first |rfl |exact Bool.noConfusion h
include S M in
theorem yM {x:Str} {xp:Pos} {e:Expr} (ok:a6 x=true) (hk:nkL (k x)=true) (hc:o7 (ak e)=false) (h:c4 T r (.asg (.nm (enc x)) (cX G N k e)) F H q) (s:Sit w.params h₀ k env A F σ H) (post:SatF w.params h₀ k env σ F.d q Q):
  wpAny (model prog w) A (exec (.Assign [.Name x xp] e pos) env) Q E σ.s:=by
 have hn:Mine.T.nm (enc x)=cT0 (cX G N k) k (.Name x xp):=by
  refine (?_:_=gT' (a6 x && nkL (k x)) (.nm (enc x)))
  rw [ok,hk];rfl
 rw [hn] at h
 exact C1 S M h (fun nb=>yJ nb hc) rfl rfl s post
include S M I4 in
theorem KX {x:Str} {xp:Pos} {e:Expr} (ok:a6 x=true) (hk:nkL (k x)=true) (h:c4 T r (cAn (cX G (N+1) k) (enc x) e (ak e)) F H q) (s:Sit w.params h₀ k env A F σ H) (post:SatF w.params h₀ k env σ F.d q Q):
  wpAny (model prog w) A (exec (.Assign [.Name x xp] e pos) env) Q E σ.s:=by
 rcases e with _ |_ <;> first |exact yM S M ok hk rfl h s post |exact NI S ok hk h s post |exact NE S M I4 ok hk h s post |skip
 rename_i ks vs p
 rcases ks with _ |_
 ·rcases vs with _ |_
  ·exact NJ ok hk h s post
  ·exact yM S M ok hk rfl h s post
 ·exact yM S M ok hk rfl h s post
include S M I4 in
theorem vO {ts:List Expr} {e:Expr} (h:c4 T r ((one? ts).elim .bad fun t=>cAs (cX G (N+1) k) (cT0 (cX G (N+1) k) k t) e) F H q) (s:Sit w.params h₀ k env A F σ H) (post:SatF w.params h₀ k env σ F.d q Q):wpAny (model prog w) A (exec (.Assign ts e pos) env) Q E σ.s:=by
 rcases ts with _ | ⟨tx,_ |_⟩ <;> first |exact h.elim |skip
 replace h:c4 T r (cAs (cX G (N+1) k) (cT0 (cX G (N+1) k) k tx) e) F H q:=h
 rcases tx with _ |_ <;> first |exact h.elim |skip
 ·refine gSE (G6 (E4 rfl) h) fun hn h=> ?_
  exact C1 S M h (fun nb=>C2 nb) (by rcases e with _ |_ <;> exact rfl) rfl s post
 ·refine gSE (G6 rfl h) fun hn h=> ?_
  exact C1 S M h (fun nb=>C3 nb) (by rcases e with _ |_ <;> exact rfl) rfl s post
 ·rename_i x xp
  rcases hb:a6 x && nkL (k x) with _ |_
  ·replace h:c4 T r (cAs (cX G (N+1) k) (gT' (a6 x && nkL (k x)) (.nm (enc x))) e) F H q:=h
   rw [hb] at h
   exact h.elim
  ·replace h:c4 T r (cAs (cX G (N+1) k) (gT' (a6 x && nkL (k x)) (.nm (enc x))) e) F H q:=h
   rw [hb] at h
   rw [Bool.and_eq_true] at hb
   exact KX S M I4 hb.1 hb.2 h s post
 ·rename_i es n p
  refine gSE (G6 (E4 rfl) h) fun hn h=> ?_
  replace h:c4 T r (.asg (cT0 (cX G (N+1) k) k (.Tuple es n p)) (cX G (N+1) k e)) F H q:=h
  have pl:plA (ak e)=true:=by
   rw [Bool.and_eq_true] at hn
   have h1:=hn.1
   have h2:=hn.2
   rcases hb:(es.map (cT1 (cX G (N+1) k) k)).all nbT with _ |_
   ·rw [hb] at h1;exact Bool.noConfusion h1
   ·rw [hb] at h2;exact h2
  exact C1 S M h (fun nb=>yJ nb (C4 pl)) (yL pl) rfl s post
include S M I4 in
theorem KY {x:Stmt} (h:c4 T r (cS G k N x) F H q) (s:Sit w.params h₀ k env A F σ H) (post:SatF w.params h₀ k env σ F.d q Q):wpAny (model prog w) A (exec x env) Q E σ.s:=by
 rcases N with _ |N
 ·exact h.elim
 rcases x with _ |_ <;> first
  |exact h.elim
  |exact NH S h s post
  |exact vO S M I4 h s post
  |exact NG S h s post
  |exact wpAny_Pass (post .nx F H .next σ h rfl s.ok.go s.fr rfl)
  |exact PySem.wpAny_Break (post .bk F H .brk σ h rfl s.ok.go s.fr rfl)
  |skip
 ·refine gSE h fun hn h=> ?_
  rw [List.isEmpty_iff.mp hn]
  exact NK S M I4 h s post
 ·refine gSE h fun hn h=> ?_
  rw [List.isEmpty_iff.mp hn]
  exact wpAny_While (S.whl h s post)
 ·refine wpAny_If (S.ts h s fun b H1 σ1 h1 g1=> ?_)
  rcases b with _ |_ <;> exact jB S h1 (s.up g1) (post.of g1.weak rfl)
 ·refine gSE h fun hn h=> ?_
  rw [Bool.and_eq_true,List.isEmpty_iff,List.isEmpty_iff] at hn
  rw [arm_exec_Try,hn.1,hn.2]
  refine wpAny_bind (wpAny_standAt ?_)
  unfold tryStmt
  refine wpAny_bind (wpAny_attempt (jB S h s fun fl F1 H1 f σ1 h1 d1 g1 f1 rl=> ?_))
  have p:=post fl F1 H1 f σ1 h1 d1 g1 f1 rl
  rcases f with _ |_ |_ |_ <;> first |exact wpAny_execs_nil p |exact wpAny_pure p
end
theorem fL {x:Str}:∀ {ns:List Str} {vs:List Value},x∉ns→(ns.zip vs).lookup x=none
 | [],_,_=>by simp
 |a::r,[],_=>by simp
 |a::r,v::vs,h=>by
  rw [List.zip_cons_cons,List.lookup_cons]
  have:(x == a)=false:=beq_eq_false_iff_ne.mpr fun q=>h (by simp [q])
  rw [this]
  exact fL fun q=>h (by simp [q])
theorem qN {α β:Type} {f g:α→Option β}:∀ {l:List α},(∀ x∈l,f x=g x)→l.filterMap f=l.filterMap g
 | [],_=>rfl
 |a::l,h=>by rw [List.filterMap_cons,List.filterMap_cons,h a (by simp),qN fun x hx=>h x (by simp [hx])]
theorem gW:∀ (ns:List Str) (full:List Value),ns.Nodup→full.length=ns.length→ns.filterMap (fun n=>((ns.zip full).lookup n).map (n,·))=ns.zip full
 | [],_,_,_=>by simp
 |a::r,[],_,h=>by simp at h
 |a::r,v::vs,nd,h=>by
  rw [List.nodup_cons] at nd
  have ih:=gW r vs nd.2 (by simpa using h)
  rw [List.zip_cons_cons,List.filterMap_cons]
  simp only [List.lookup_cons,beq_self_eq_true,Option.map_some]
  rw [List.cons.injEq]
  refine ⟨rfl,?_⟩
  refine Eq.trans (qN ?_) ih
  intro n hn
  have:(n == a)=false:=beq_eq_false_iff_ne.mpr fun q=>nd.1 (q ▸ hn)
  simp only [this]
noncomputable def gY (l slots:List (Str × Value)):List (Str × Value):=l.foldl (fun s x=>if (s.lookup x.1).isNone=true then s++[(x.1,x.2)] else s) slots
theorem oL:∀ (l slots:List (Str × Value)),(forIn l slots fun x s=>if (s.lookup x.1).isNone=true then pure (ForInStep.yield (s++[(x.1,x.2)])) else pure (ForInStep.yield s))=(pure (gY l slots):Sem (List (Str × Value)))
 | [],slots=>by rw [List.forIn_nil];rfl
 |x::l,slots=>by
  rw [List.forIn_cons]
  by_cases h:(slots.lookup x.1).isNone=true
  ·simp only [h,if_true,pure_bind]
   rw [oL l]
   simp only [gY,List.foldl_cons,h,if_true]
  ·simp only [Bool.not_eq_true] at h
   simp only [h,Bool.false_eq_true,if_false,pure_bind]
   rw [oL l]
   simp only [gY,List.foldl_cons,h,Bool.false_eq_true,if_false]
theorem lH (x:Str × Value) (l slots:List (Str × Value)):gY (x::l) slots=gY l (if (slots.lookup x.1).isNone=true then slots++[(x.1,x.2)] else slots):=rfl
theorem hV {n:Str} {S T:List (Str × Value)} (h:S.lookup n=none):(S++T).lookup n=T.lookup n:=by rw [List.lookup_append,h];rfl
theorem mX {n m:Str} {v:Value} {T:List (Str × Value)} (h:n≠m):((m,v)::T).lookup n=T.lookup n:=by rw [List.lookup_cons,beq_eq_false_iff_ne.mpr h]
theorem oM:∀ (ns:List Str) (us ds:List Value) (S:List (Str × Value)),ns.Nodup→ds.length=ns.length→(∀ n∈ns,S.lookup n=none)→gY (ns.zip ds) (S++ns.zip us)=S++ns.zip (us++ds.drop us.length)
 | [],us,ds,S,_,_,_=>rfl
 |n::r,us,[],S,_,h,_=>Nat.noConfusion h
 |n::r,[],d::ds,S,nd,h,out=>by
  have nd:=List.nodup_cons.mp nd
  have h0:(S++[]).lookup n=none:=(List.append_nil S).symm ▸ out n List.mem_cons_self
  have e:gY ((n::r).zip (d::ds)) (S++[])=gY (r.zip ds) ((S++[])++[(n,d)]):=by
   rw [List.zip_cons_cons,lH,h0];rfl
  have ih:=oM r [] ds (S++[(n,d)]) nd.2 (Nat.succ.inj h) fun m hm=>by
   rw [hV (out m (List.mem_cons_of_mem _ hm)),mX fun q:m=n=>nd.1 (q ▸ hm)];rfl
  rw [List.zip_nil_right,e,List.append_nil]
  rw [List.zip_nil_right,List.append_nil] at ih
  exact ih.trans (List.append_assoc S [(n,d)] _)
 |n::r,u::us,d::ds,S,nd,h,out=>by
  have nd:=List.nodup_cons.mp nd
  have h0:(S++(n,u)::r.zip us).lookup n=some u:=by
   rw [hV (out n List.mem_cons_self),List.lookup_cons,beq_self_eq_true]
  have ih:=oM r us ds (S++[(n,u)]) nd.2 (Nat.succ.inj h) fun m hm=>by
   rw [hV (out m (List.mem_cons_of_mem _ hm)),mX fun q:m=n=>nd.1 (q ▸ hm)];rfl
  rw [List.zip_cons_cons,List.zip_cons_cons,lH,h0]
  rw [List.append_assoc,List.append_assoc] at ih
  exact ih
theorem fM {x:Str}:∀ {ns:List Str} {vs:List Value} {i:Nat},i < ns.length→i < vs.length→ns[i]? =some x→((ns.zip vs).lookup x).isSome=true
 | [],_,_,h,_,_=>by simp at h
 |a::r,[],_,_,h,_=>by simp at h
 |a::r,v::vs,i,h1,h2,e=>by
  rw [List.zip_cons_cons,List.lookup_cons]
  cases q:x == a with
  |true=>rfl
  |false=>
   cases i with
   |zero=>simp at e;subst e;simp at q
   |succ i=>exact fM (by simpa using h1) (by simpa using h2) (by simpa using e)
theorem uH:∀ (m:Nat) (ns:List Str) (us X:List Value),m≤us.length→(ns.take m).zip us=(ns.take m).zip (us++X)
 |0,_,_,_,_=>rfl
 |m+1,[],_,_,_=>rfl
 |m+1,n::ns,[],_,h=>absurd h (Nat.not_succ_le_zero m)
 |m+1,n::ns,u::us,X,h=>congrArg ((n,u)::·) (uH m ns us X (Nat.le_of_succ_le_succ h))
theorem jC:∀ (m:Nat) (ns:List Str) (us:List Value),m≤us.length→ns.zip us=(ns.take m).zip us++(ns.drop m).zip (us.drop m)
 |0,_,_,_=>rfl
 |m+1,[],us,_=>rfl
 |m+1,n::ns,[],h=>absurd h (Nat.not_succ_le_zero m)
 |m+1,n::ns,u::us,h=>congrArg ((n,u)::·) (jC m ns us (Nat.le_of_succ_le_succ h))
theorem yN (ns:List Str) (us ds:List Value) (nd:ns.Nodup) (hle:us.length≤ns.length) (hd:ds.length≤ns.length) (hge:ns.length≤us.length+ds.length):
  gY ((ns.drop (ns.length - ds.length)).zip ds) (ns.zip us)=ns.zip (us++ds.drop (us.length+ds.length - ns.length)):=by
 have hm:ns.length - ds.length≤us.length:=Nat.sub_le_of_le_add hge
 have hj:us.length+ds.length - ns.length=(us.drop (ns.length - ds.length)).length:=by rw [List.length_drop];lia
 rw [jC _ ns us hm,hj,jC _ ns (us++_) (Nat.le_trans hm (by rw [List.length_append];exact Nat.le_add_right _ _)),List.drop_append_of_le_length hm]
 rw [oM _ _ _ _ (nd.sublist (List.drop_sublist _ _)) (by rw [List.length_drop,Nat.sub_sub_self hd])]
 ·exact congrArg (·++_) (uH _ ns us _ hm)
 ·intro n hn
  refine fL fun h2=> ?_
  exact (List.nodup_append.mp ((List.take_append_drop (ns.length - ds.length) ns).symm ▸ nd)).2.2 _ h2 _ hn rfl
theorem oN {fd:FuncData} {ps:List Arg} {kd:List (Option Expr)} {dd:List Expr} (hp:fd.params=⟨[],ps,none,[],kd,none,dd⟩) (us ds:List Value) (nd:(ps.map (·.arg)).Nodup) (hle:us.length≤ps.length) (hd:ds.length≤ps.length) (hge:ps.length≤us.length+ds.length)
  {M:Model} {A:Around} {E:Value→Shared→Prop} {s:Shared} {Q:List (Str × Value)→Shared→Prop} (hs:∀ {Q':Option (Array Value)→Shared→Prop},(∀ o,(o.getD #[]).toList=ds→Q' o s)→wpAny M A (seqItems? fd.defaults) Q' E s)
  (hQ:Q ((ps.map (·.arg)).zip (us++ds.drop (us.length+ds.length - ps.length))) s):wpAny M A (bindArgs fd ⟨us,[]⟩) Q E s:=by
 obtain ⟨nm,qn,pr,bd,sc,gl,cl,df,kw,dc,pm,an,co,ct,bl⟩:=fd
 have hp:pr=⟨[],ps,none,[],kd,none,dd⟩:=hp
 subst hp
 have hnl:(ps.map (fun p:Arg=>p.arg)).length=ps.length:=List.length_map _
 rw [← hnl] at hle hd hge hQ
 clear hnl
 refine wpAny_bind (wpAny_pure ?_)
 refine wpAny_bind (hs fun o ho=> ?_)
 rw [ho]
 clear hs ho
 have e0:ds.drop (ds.length - (ps.map (fun p:Arg=>p.arg)).length)=ds:=by rw [Nat.sub_eq_zero_of_le hd];rfl
 have hmiss:decide ((!(((ps.map (fun p:Arg=>p.arg)).take ((ps.map (fun p:Arg=>p.arg)).length - (ds.drop (ds.length - (ps.map (fun p:Arg=>p.arg)).length)).length)).filter fun n=>(((ps.map (fun p:Arg=>p.arg)).zip us).lookup n).isNone).isEmpty)=true)=false:=by
  rw [e0,List.filter_eq_nil_iff.mpr fun x hx=> ?_]
  ·rfl
  ·obtain ⟨i,hi,e⟩:=List.getElem_of_mem hx
   rw [List.length_take] at hi
   rw [List.getElem_take] at e
   rw [Option.isNone_eq_false_iff.mpr (fM (i:=i) (by lia) (by lia) (by rw [List.getElem?_eq_getElem (by lia),e]))]
   exact Bool.false_ne_true
 have hf:gY (((ps.map (fun p:Arg=>p.arg)).drop ((ps.map (fun p:Arg=>p.arg)).length - (ds.drop (ds.length - (ps.map (fun p:Arg=>p.arg)).length)).length)).zip (ds.drop (ds.length - (ps.map (fun p:Arg=>p.arg)).length))) ((ps.map (fun p:Arg=>p.arg)).zip us)=(ps.map (fun p:Arg=>p.arg)).zip (us++ds.drop (us.length+ds.length - (ps.map (fun p:Arg=>p.arg)).length)):=by
  rw [e0];exact yN (ps.map (fun p:Arg=>p.arg)) us ds nd hle hd hge
 refine wpAny_ite_false (show decide ((decide (us.length > (ps.map (fun p:Arg=>p.arg)).length) && true)=true)=false from by rw [decide_eq_false (Nat.not_lt.mpr hle)];rfl) ?_
 refine wpAny_ite_false hmiss ?_
 refine wpAny_bind (wpAny_of_eq ((oL _ _).trans (congrArg pure hf)) ?_)
 refine wpAny_bind (wpAny_pure ?_)
 refine wpAny_ite_false rfl ?_
 have e9:(ps.map (fun p:Arg=>p.arg)++[]).filterMap (fun n=>(((ps.map (fun p:Arg=>p.arg)).zip (us++ds.drop (us.length+ds.length - (ps.map (fun p:Arg=>p.arg)).length))).lookup n).map (n,·))=(ps.map (fun p:Arg=>p.arg)).zip (us++ds.drop (us.length+ds.length - (ps.map (fun p:Arg=>p.arg)).length)):=by
  rw [List.append_nil]
  exact gW _ _ nd (by rw [List.length_append,List.length_drop];lia)
 exact wpAny_pure (show Q ((ps.map (fun p:Arg=>p.arg)++[]).filterMap (fun n=>(((ps.map (fun p:Arg=>p.arg)).zip (us++ds.drop (us.length+ds.length - (ps.map (fun p:Arg=>p.arg)).length))).lookup n).map (n,·))) s from e9.symm ▸ hQ)
section
variable (w:World) (h₀:Heap) (G:Nat→Option C)
structure FnOk (a:Nat) (f:FDef) (fd:FuncData) (ps:List Arg) (body:List Stmt) (ds:List Value):Prop where
 obj:∃ o,h₀.get? a=some o∧o.data= .func fd
 code:h₀.CodeRec fd.code fd.qualname
 body_:fd.body= .stmts body
 pars:∃ kd dd,fd.params=⟨[],ps,none,[],kd,none,dd⟩
 clo:fd.closure=[]
 glo:fd.globals=mainGlobals
 blt:fd.builtins=builtinsNs
 co:fd.scope.isCoroutine=false
 gen:fd.scope.isGenerator=false
 kind:fd.scope.kind= .function
 names:ps.map (fun p=>enc p.arg)=f.ps
 oks:∀ p∈ps,a6 p.arg=true
 nodup:f.ps.Nodup
 dlen:ds.length≤ps.length
 dflt:(fd.defaults= .none∧ds=[])∨∃ T o items n,fd.defaults= .ref T∧h₀.get? T=some o∧o.data= .seq items n∧items.toList=ds
 dval:CRs w.params (fun a o=>h₀.get? a=some o) f.ds ds
 text:∃ N,body.map (cS G (fun x=>fd.scope.names.lookup x) N)=f.body
 kinds:∀ p∈ps,fd.scope.names.lookup p.arg=some .local∨fd.scope.names.lookup p.arg=some .cell
 noFree:∀ x,fd.scope.names.lookup x≠some .free
end
theorem dJ {x:Str}:∀ {names:List (Str × NameKind)} {n:Nat} {acc:List (Str × Addr)},((x,NameKind.cell)∈names∨(acc.lookup x).isSome=true)→((cellsFrom n names acc).lookup x).isSome=true
 | [],n,acc,h=>h.elim nofun id
 | (y,kd)::r,n,acc,h=>by
  unfold cellsFrom
  have hacc:∀ {a},(x,NameKind.cell)∈r∨(x=y)∨(acc.lookup x).isSome=true→(x,NameKind.cell)∈r∨(List.lookup x ((y,a)::acc)).isSome=true:=fun {a} h=>h.imp id fun h=>by
   rw [List.lookup_cons]
   rcases q:x == y with _ |_
   ·exact h.elim (fun e=>by rw [e,beq_self_eq_true] at q;exact Bool.noConfusion q) id
   ·rfl
  have hh:(x,NameKind.cell)∈r∨(x=y)∨(acc.lookup x).isSome=true:=by
   rcases h with h |h
   ·rcases h with _ | ⟨_,h⟩
    ·exact .inr (.inl rfl)
    ·exact .inl h
   ·exact .inr (.inr h)
  by_cases hk:(kd == NameKind.cell)=true
  ·rw [if_pos hk];exact dJ (hacc hh)
  ·rw [if_neg hk]
   refine dJ ?_
   rcases h with h |h
   ·rcases h with _ | ⟨_,h⟩
    ·exact absurd rfl hk
    ·exact .inl h
   ·exact .inr h
theorem lI {B:List (Str × Value)→(Str→Option Value)→Str→Option Value} {c:Str→Prop} (h0:∀ m,B [] m=m) (hB:∀ n v r m,∃ m',B ((n,v)::r) m=B r m'∧(∀ y,y≠n→m' y=m y)∧(c n→m' n=some v)) {x:Str} (hx:c x):
  ∀ {binds:List (Str × Value)} {m:Str→Option Value} {u:Value},(binds.map (·.1)).Nodup→(binds.lookup x=some u∨(x∉binds.map (·.1)∧m x=some u))→B binds m x=some u
 | [],m,u,_,h=>by rw [h0];exact h.elim nofun (·.2)
 | (n,v)::r,m,u,nd,h=>by
  obtain ⟨m',e,h1,h2⟩:=hB n v r m
  rw [List.map_cons,List.nodup_cons] at nd
  rw [e]
  refine lI h0 hB hx nd.2 ?_
  rcases h with h |h
  ·rw [List.lookup_cons] at h
   rcases q:x == n with _ |_
   ·rw [q] at h;exact .inl h
   ·rw [q] at h
    cases beq_iff_eq.mp q
    exact .inr ⟨nd.1,(h2 hx).trans h⟩
  ·exact .inr ⟨fun q=>h.1 (.tail _ q),(h1 x fun q=>h.1 (q ▸ .head _)).trans h.2⟩
theorem vP {kindOf:Str→Option NameKind} {x:Str} (hk:kindOf x=some .local) {binds:List (Str × Value)} {u:Value} (nd:(binds.map (·.1)).Nodup) (h:binds.lookup x=some u):bindL kindOf binds (fun _=>none) x=some u:=
 lI (B:=bindL kindOf) (c:=fun x=>kindOf x=some .local) (fun _=>rfl) (fun n v r m=>⟨_,rfl,fun y hy=>by by_cases q:kindOf n=some .local <;> simp [q,hy],fun q=>by simp [q]⟩) hk nd (.inl h)
theorem vT {kindOf:Str→Option NameKind} {x:Str} (hk:kindOf x≠some .local) {binds:List (Str × Value)} {u:Value} (nd:(binds.map (·.1)).Nodup) (h:binds.lookup x=some u):bindC kindOf binds (fun _=>none) x=some u:=
 lI (B:=bindC kindOf) (c:=fun x=>kindOf x≠some .local) (fun _=>rfl) (fun n v r m=>⟨_,rfl,fun y hy=>by by_cases q:kindOf n=some .local <;> simp [q,hy],fun q=>by simp [q]⟩) hk nd (.inl h)
theorem Tops.append {α:Type} {R:α→Value→Prop} {vs vs':List α} {us us':List Value} (a:Tops R vs us) (b:Tops R vs' us'):Tops R (vs++vs') (us++us'):=by
 induction a with
 |nil=>exact b
 |cons x _ ih=>exact .cons x ih
theorem Tops.drop {α:Type} {R:α→Value→Prop} {vs:List α} {us:List Value} (a:Tops R vs us):∀ n,Tops R (vs.drop n) (us.drop n):=by
 induction a with
 |nil=>intro n;rw [List.drop_nil,List.drop_nil];exact .nil
 |cons x y ih=>exact fun n=>match n with
  |0=>.cons x y
  |n+1=>ih n
theorem oO {W:Params} {P:Fz} {φ:Phi}:∀ {cs:List C} {us:List Value},CRs W P cs us→Tops (TR W P φ) (cs.map .c) us
 | [],us,h=>by subst h;exact .nil
 |c::cs,us,⟨u,r,e,x,y⟩=>by subst e;exact .cons x (oO y)
theorem uI {R:V→Value→Prop} {x:Str} (ox:a6 x=true):∀ {ps:List Arg} {vs:List V} {us:List Value} {v:V},(∀ p∈ps,a6 p.arg=true)→Tops R vs us→lk ((ps.map fun p=>enc p.arg).zip vs) (enc x)=some v→
  ∃ u,((ps.map (·.arg)).zip us).lookup x=some u∧R v u
 | [],vs,us,v,_,_,h=>nomatch h
 |p::ps,_,_,v,ho,.nil,h=>nomatch h
 |p::ps,_,_,v,ho,.cons (c:=v1) (u:=u1) (us:=us) a b,h=>by
  rw [List.map_cons,List.zip_cons_cons,List.lookup_cons]
  by_cases e:enc p.arg=enc x
  ·cases k9 (ho p (.head _)) ox e
   rw [beq_self_eq_true]
   exact ⟨u1,rfl,Option.some.inj (lk_self.symm.trans h) ▸ a⟩
  ·have:(x == p.arg)=false:=beq_eq_false_iff_ne.mpr fun q=>e (q ▸ rfl)
   rw [this]
   exact uI ox (fun p hp=>ho p (.tail _ hp)) b ((gV e).symm.trans h)
theorem iM {α β:Type} {f:α→β}:∀ {l:List α},(l.map f).Nodup→l.Nodup
 | [],_=>.nil
 |a::l,h=>by
  rw [List.map_cons,List.nodup_cons] at h
  exact List.nodup_cons.mpr ⟨fun q=>h.1 (List.mem_map_of_mem q),iM h.2⟩
theorem mY {α:Type} {ps:List Nat} {ds as:List α} {vs:List (Nat × α)} (h:eL ps ds as=some vs):as.length≤ps.length∧ps.length≤as.length+ds.length∧vs=ps.zip (as++ds.drop (as.length+ds.length - ps.length)):=by
 unfold eL at h
 rcases q:Nat.ble as.length ps.length && Nat.ble ps.length (as.length+ds.length) with _ |_
 ·rw [q] at h;exact nn h
 ·rw [q] at h
  rw [Bool.and_eq_true] at q
  exact ⟨Nat.le_of_ble_eq_true q.1,Nat.le_of_ble_eq_true q.2,(Option.some.inj h).symm⟩
section
variable {prog:Program} {w:World} {h₀:Heap} {G:Nat→Option C} {T:Tb} {r:Rec}
variable {A:Around} {σ σ':Wd} {E:Value→Shared→Prop} {H H':List O} {q:KV}
theorem yO {a:Nat} {f:FDef} {fd:FuncData} {ps:List Arg} {body:List Stmt} {ds:List Value} (Fo:FnOk w h₀ G a f fd ps body ds) (lim:h₀.NoLimit) {as:List V} {vs:List (Nat × V)} (hb:eL f.ps (f.ds.map .c) as=some vs) {us:List Value}
  (ok:Ok w.params h₀ σ H) (ta:TRs w.params σ as us) (hd:A.depth < 1000) {R:Result→Shared→Prop}
  (run:∀ env σ1,Go w.params h₀ bG σ σ1 H→Frm w.params (kS fd.scope) env vs σ1→(∀ b,Mine (kS fd.scope) env b→σ.sz≤b)→
   wpAny (model prog w) (A.deeper env) (execs body env) (fun fl s'=>R (.ok (.ret (match fl with | .ret v=>v |_=>.none))) s')
    (fun e s'=>wpAny (model prog w) (A.deeper env) (leaving env e) (fun _ s''=>R (.error e) s'') (fun e' s''=>R (.error e') s'') s') σ1.s):
  codeAny (model prog w) A (.call (.ref a) ⟨us,[]⟩) R σ.s:=by
 obtain ⟨o,ho,hdat⟩:=Fo.obj
 obtain ⟨kd,dd,hpar⟩:=Fo.pars
 obtain ⟨l1,l2,rfl⟩:=mY hb
 have nd:=Fo.nodup
 rw [← Fo.names] at l1 l2 nd run
 rw [List.length_map] at l1 l2
 rw [List.length_map,← bV Fo.dval] at l2
 rw [← ta.len] at l1 l2
 have hndn:(ps.map (·.arg)).Nodup:=iM (f:=enc) (by rw [List.map_map];exact nd)
 refine codeAny_call_function hd (ok.kept _ _ ho) hdat Fo.co Fo.gen Fo.body_ (Fo.code.keeps ok.kept) (oN hpar us ds hndn l1 Fo.dlen l2 (fun {Q'} hQ=> ?_) ?_)
 ·rcases Fo.dflt with ⟨e1,e2⟩ | ⟨T,oT,items,n,e1,e2,e3,e4⟩
  ·rw [e1];exact wpAny_bind (wpAny_pure (wpAny_pure (hQ none e2.symm)))
  ·rw [e1];exact wpAny_seqItems (ok.kept _ _ e2) e3 (hQ (some items) e4)
 rw [Fo.clo]
 have tr:TRs w.params σ (as++(f.ds.map .c).drop (as.length+(f.ds.map V.c).length - (ps.map fun p=>enc p.arg).length)) (us++ds.drop (us.length+ds.length - ps.length)):=by
  rw [ta.len,bV Fo.dval,List.length_map,List.length_map]
  exact ta.append ((oO (bW ok.old _ _ Fo.dval)).drop _)
 have hbn:((ps.map (·.arg)).zip (us++ds.drop (us.length+ds.length - ps.length))).map (·.1)=ps.map (·.arg):=List.map_fst_zip (by simp only [List.length_map,List.length_append,List.length_drop];lia)
 revert run hbn tr
 generalize (as++(f.ds.map V.c).drop (as.length+(f.ds.map V.c).length - (ps.map fun p=>enc p.arg).length))=xs
 generalize (us++ds.drop (us.length+ds.length - ps.length))=ys
 intro run tr hbn
 refine wpAny_newFunctionEnv_cells Fo.kind (fun y hy=> ?_) fun env he s1 x=> ?_
 ·obtain ⟨p,hp,e⟩:=List.mem_map.mp (hbn ▸ List.mem_map_of_mem hy)
  rw [← e]
  exact (Fo.kinds p hp).imp id fun hk=>⟨hk,dJ (.inl (cJ hk))⟩
 ·obtain ⟨h1,tk,rfl⟩:=x.toInCall.same
  have kp:Kept σ.h h1:=x.toInCall.keep
  have hL:env.locals=σ.sz:=congrArg Env.locals he
  have hlt:σ.sz < h1.objs.size:=hL ▸ x.toInCall.ns.lt
  have g1:Go w.params h₀ bG σ ⟨σ.P,σ.φ,to σ.s h1 tk⟩ H:=ok.grow0 (fun b o _ e=>kp b o e) (fun _ q=>q.elim) (Nat.le_of_lt hlt)
  have hkof:∀ y,env.kindOf y=kS fd.scope y:=fun y=>he ▸ rfl
  have cel:∀ {y},kS fd.scope y=some .cell→∃ c,env.cells.lookup y=some c:=fun {y} hy=>Option.isSome_iff_exists.mp (he ▸ dJ (.inl (cJ hy)))
  have fr:∀ {y},nkF (kS fd.scope y)=true→kS fd.scope y=some .cell:=fun h=>(mW h).elim id fun e=>absurd e (Fo.noFree _)
  have abv:∀ {y c},env.cells.lookup y=some c→σ.sz < c:=fun hc=>hL ▸ x.above _ _ (mem_of_lookup hc)
  have mine:∀ b,Mine (kS fd.scope) env b→σ.sz≤b∧b < h1.objs.size:=fun b m=>by
   rcases m with _ | ⟨y,_,h,e⟩
   ·rw [hL];exact ⟨Nat.le_refl _,hlt⟩
   ·exact ⟨Nat.le_of_lt (abv e),(x.cell y b e).lt⟩
  have val:∀ {y v},a6 y=true→lk ((ps.map fun p=>enc p.arg).zip xs) (enc y)=some v→∃ u,((ps.map (·.arg)).zip ys).lookup y=some u∧TR w.params σ.P σ.φ v u:=fun oy hv=>uI oy Fo.oks tr hv
  refine ⟨(lim.keeps ok.kept).keeps kp,codeAny_func (run env ⟨σ.P,σ.φ,to σ.s h1 tk⟩ g1 ⟨⟨he ▸ Fo.kind,he ▸ Fo.glo,he ▸ Fo.blt,fun y q=>(hkof y).trans q,fun y q=>(hkof y).trans q,fun y q=>absurd q (Fo.noFree y),fun y q=>(hkof y).trans q,fun y c _ e=> ?_,fun y z c hy hz h1 h2=> ?_⟩,⟨_,x.toInCall.ns,fun y oy hy v hv=> ?_⟩,fun y hy=> ?_,fun b m=> ?_⟩ fun b m=>(mine b m).1)⟩
  ·rw [hL];exact Nat.ne_of_gt (abv e)
  ·exact name_of_addr x.apart (mem_of_lookup h1) (mem_of_lookup h2)
  ·obtain ⟨u,hu,t⟩:=val oy hv
   exact ⟨u,vP ((hkof y).trans hy) (by rw [hbn];exact hndn) hu,t⟩
  ·obtain ⟨c,hc⟩:=cel (fr hy)
   refine ⟨c,_,hc,x.cell y c hc,fun oy v hv=> ?_⟩
   obtain ⟨u,hu,t⟩:=val oy hv
   exact ⟨u,vT (by rw [hkof,fr hy];decide) (by rw [hbn];exact hndn) hu,t⟩
  ·exact ok.prv (mine b m).1 (mine b m).2
end
section
variable {W:Params} {h₀:Heap} {own:Addr→Prop} {σ σ':Wd} {H H':List O}
theorem Le.len (x:Le own σ σ'):σ.φ.length≤σ'.φ.length:=by
 rcases Nat.lt_or_ge σ'.φ.length σ.φ.length with l |l
 ·exact absurd (List.getElem?_eq_some_iff.mp (x.get _ _ (List.getElem?_eq_getElem l))).1 (Nat.lt_irrefl _)
 ·exact l
noncomputable def Cut (σ σ':Wd):Fz:=fun a o=>σ'.P a o∨(σ.sz≤a∧σ'.h.get? a=some o∧Mu σ'.φ a)
theorem Go.cut (k:Ok W h₀ σ H) (x:Go W h₀ own σ σ' H') (no:∀ a,own a→σ.sz≤a):Go W h₀ bG σ ⟨Cut σ σ',σ.φ,σ'.s⟩ (H'.take H.length) where
 le:=⟨fun a o e=>.inl (x.le.up a o e),fun a o e=>e.elim (x.le.new a o) fun q=>.inr q.1,fun _ _ e=>e,fun _ e=>.inl e,fun b o e m _=>x.le.keep b o e m fun q=>dT e (no b q),x.le.size,x.le.s⟩
 ok:=⟨fun a o e=>e.elim (x.ok.inh a o) (·.2.1),fun a o e=>.inl (x.ok.old a o e),fun n o e=>by
   rcases Nat.lt_or_ge n H.length with l |l
   ·rw [List.getElem?_take_of_lt l] at e
    have hn:=List.getElem?_eq_getElem (k.len.symm ▸ l)
    exact ⟨_,hn,qD (fun _ _ _ z=>z) (fun _ _=>.inl) (x.ok.obj (x.le.get _ _ hn) e)⟩
   ·rw [List.getElem?_eq_none (Nat.le_trans (List.length_take_le ..) l)] at e
    exact nn e,
  by rw [List.length_take,← x.ok.len,Nat.min_eq_left (k.len ▸ x.le.len)];exact k.len,k.apart,fun a m o e=>e.elim (x.ok.free a (let ⟨n,p,e,i⟩:=m;⟨n,p,x.le.get n p e,i⟩) o) fun q=>Nat.not_lt.mpr q.1 (k.lt m),Nat.lt_of_lt_of_le k.low x.le.size⟩
theorem jD (k:Ok W h₀ σ H) (x:Go W h₀ own σ σ' H') {n:Nat} (hn:H.length≤n) {c:C} (hv:view H' (.r n)=some c) {u:Value} (t:RefAt σ'.φ n u):CR W (Cut σ σ') c u:=by
 obtain ⟨p,hp,rfl⟩:=t
 obtain ⟨o,ho,rfl⟩:=Option.map_eq_some_iff.mp hv
 have new:∀ {a},Hs p a→∀ {o},σ'.h.get? a=some o→Cut σ σ' a o:=fun {a} i {o} g=>by
  have m:Mu σ'.φ a:=⟨n,p,hp,i⟩
  rcases x.le.mu a m with ⟨m',p',e,i'⟩ |l
  ·have e':=x.ok.apart n m' p p' a hp (x.le.get _ _ e) i i'
   exact absurd (k.len ▸ (List.getElem?_eq_some_iff.mp (e' ▸ e)).1) (Nat.not_lt.mpr hn)
  ·exact .inr ⟨l,g,m⟩
 cases x.ok.obj hp ho with
 |lst g r=>exact ⟨_,_,_,_,rfl,new (.inl rfl) g,rfl,rfl,bW (fun _ _=>.inl) _ _ r⟩
 |dcs g ne r=>exact ⟨_,_,_,rfl,new (.inl rfl) g,ne,qB (fun _ _=>.inl) _ _ r⟩
 |ins g g' ne r=>exact ⟨_,_,_,_,_,rfl,new (.inl rfl) g,new (.inr rfl) g',qC (fun _ _=>.inl) _ _ r⟩
theorem C5 (k:Ok W h₀ σ H) (x:Go W h₀ own σ σ' H') {l:List V} {us:List Value} (t:Tops (TR1 W σ'.P σ'.φ) l us):∀ {cs:List C},back.go H.length H' l=some cs→CRs W (Cut σ σ') cs us:=by
 induction t with
 |nil=>intro cs h;cases h;exact rfl
 | @cons v u l us a b ih=>
  intro cs h
  rcases v with c |n |_
  ·obtain ⟨cs',h',rfl⟩:=Option.map_eq_some_iff.mp h
   exact ⟨u,us,rfl,b9 (fun _ _=>.inl) c u a,ih h'⟩
  ·replace h:(match Nat.blt n H.length with |true=>none |false=>match view H' (.r n) with |some x=>(back.go H.length H' l).map (x::·) |none=>none)=some cs:=h
   rcases hb:Nat.blt n H.length with _ |_
   ·rw [hb] at h
    rcases hv:view H' (.r n) with _ |c
    ·rw [hv] at h;exact nn h
    ·rw [hv] at h
     obtain ⟨cs',h',rfl⟩:=Option.map_eq_some_iff.mp h
     exact ⟨u,us,rfl,jD k x (Nat.le_of_not_lt fun q=>Bool.false_ne_true (hb.symm.trans (Nat.ble_eq_true_of_le q))) hv a,ih h'⟩
   ·rw [hb] at h;exact nn h
  ·exact a.elim
theorem C6 (k:Ok W h₀ σ H) (x:Go W h₀ own σ σ' H') {v v':V} (h:back H.length H' v=some v') {u:Value} (t:TR W σ'.P σ'.φ v u):TR W (Cut σ σ') σ.φ v' u:=by
 rcases v with c |n |l
 ·cases h
  exact b9 (fun _ _=>.inl) c u t
 ·replace h:(match Nat.blt n H.length with |true=>some (.r n) |false=>(view H' (.r n)).map .c)=some v':=h
  rcases hb:Nat.blt n H.length with _ |_
  ·rw [hb] at h
   obtain ⟨c,hc,rfl⟩:=Option.map_eq_some_iff.mp h
   exact jD k x (Nat.le_of_not_lt fun q=>Bool.false_ne_true (hb.symm.trans (Nat.ble_eq_true_of_le q))) hc t
  ·rw [hb] at h;cases h
   obtain ⟨p,hp,rfl⟩:=t
   have hn:=List.getElem?_eq_getElem (k.len.symm ▸ Nat.le_of_ble_eq_true hb:n < σ.φ.length)
   exact ⟨p,hn.trans ((x.le.get _ _ hn).symm.trans hp),rfl⟩
 ·replace h:(match back.go H.length H' l with |some cs=>some (.c (.tup cs)) |none=>none)=some v':=h
  obtain ⟨a,o,ws,m,rfl,pa,cl,dat,g⟩:=t
  rcases hg:back.go H.length H' l with _ |cs
  ·rw [hg] at h;exact nn h
  ·rw [hg] at h;cases h
   exact ⟨a,o,ws,m,rfl,.inl pa,cl,dat,C5 k x g hg⟩
theorem Ok.hide (k:Ok W h₀ σ H):Ok W h₀ ⟨σ.P,[],σ.s⟩ []:=⟨k.inh,k.old,fun n o e=>nn e,rfl,fun m n p q a e=>nn e,fun a ⟨n,p,e,i⟩=>nn e,k.low⟩
theorem Go.show (k:Ok W h₀ σ H) (x:Go W h₀ bG ⟨σ.P,[],σ.s⟩ σ' H'):Go W h₀ bG σ ⟨σ'.P,σ.φ,σ'.s⟩ H:=by
 have kp:∀ b o,σ.h.get? b=some o→σ'.h.get? b=some o:=fun b o e=>x.le.keep b o e nofun id
 have:=k.base (own:=bG) (P':=σ'.P) (h':=σ'.h) (tk:=σ'.s.toks) x.le.up x.le.new x.ok.inh (fun b o _=>kp b o) (fun b o e _ _=>kp b o e) x.le.size
 exact x.le.s ▸ this
end
noncomputable def G7 (W:Params) (h₀:Heap) (σ:Wd) (q:KV) (R:Result→Shared→Prop):Prop:=∀ v H' u P' s',q v H'→Go W h₀ bG σ ⟨P',σ.φ,s'⟩ H'→TR W P' σ.φ v u→R (.ok (.ret u)) s'
theorem Room.down {A:Around} {d:Nat} (x:Room A (d+1)) (env:Env):Room (A.deeper env) d where
 handled:=x.handled
 depth:=by have:=x.depth;show A.depth+1+_≤_;lia
 units:=by have:=x.units;show A.units+3+_≤_;lia
section
variable {prog:Program} {w:World} {h₀:Heap} {G:Nat→Option C} {T:Tb} {r:Rec} (S:Snd prog w h₀ G r)
variable {A:Around} {σ σ':Wd} {E:Value→Shared→Prop} {H H':List O} {q:KV}
include S in
theorem lJ {a d:Nat} {f:FDef} {fd:FuncData} {ps:List Arg} {body:List Stmt} {ds:List Value} (Fo:FnOk w h₀ G a f fd ps body ds) (lim:h₀.NoLimit) {as:List V} (h:iB r d f as H q) {us:List Value} (rm:∀ env,Room (A.deeper env) d) (hd:A.depth < 1000)
  (ok:Ok w.params h₀ σ H) (ta:TRs w.params σ as us) {R:Result→Shared→Prop} (post:G7 w.params h₀ σ q R):codeAny (model prog w) A (.call (.ref a) ⟨us,[]⟩) R σ.s:=by
 refine ooE h fun vs hb h=>yO Fo lim hb ok ta hd fun env σ1 g1 f1 mine=> ?_
 obtain ⟨N,htext⟩:=Fo.text
 rw [← htext] at h
 refine jB (F:=⟨d,vs⟩) S h ⟨rm env,f1,g1.ok⟩ fun fl F2 H2 fw σ2 h2 d2 g2 f2 rl=> ?_
 have g:Go w.params h₀ (ownOf (kS fd.scope) env) σ σ2 H2:=g1.weak.trans g2
 have gc:=g.cut ok fun b q=>mine b q.mine
 rcases fl with _ |_ |v
 ·cases rl
  exact post _ _ .none _ _ h2 gc rfl
 ·exact h2.elim
 ·obtain ⟨u,rfl,t⟩:=rl
  exact ooE h2 fun v' hv hq=>post v' _ u _ _ hq gc (C6 ok g hv t)
theorem sG {W:Params} {P:Fz} {φ:Phi} {v:V} {u:Value} (t:TR W P [] v u):TR W P φ v u:=by
 rcases v with _ |_ |_
 ·exact t
 ·obtain ⟨p,hp,_⟩:=t;exact nn hp
 ·refine SeqAt.mono (fun _ _ e=>e) (fun _ z=>z.imp fun v u t=> ?_) t
  rcases v with _ |_ |_
  ·exact t
  ·obtain ⟨p,hp,_⟩:=t;exact nn hp
  ·exact t
theorem sH {vs:List V} {cs:List C} (h:eO vs=some cs):vs=cs.map .c:=by
 induction vs generalizing cs with
 |nil=>cases h;rfl
 |cons v vs ih=>
  rcases v with x |_ |_
  ·obtain ⟨cs',h',rfl⟩:=Option.map_eq_some_iff.mp h
   rw [ih h'];rfl
  ·exact nn h
  ·exact nn h
include S in
theorem yP {a d:Nat} {f:FDef} {fd:FuncData} {ps:List Arg} {body:List Stmt} {ds:List Value} (Fo:FnOk w h₀ G a f fd ps body ds) (lim:h₀.NoLimit) {as:List V} (h:j9 r d f as H q) {us:List Value} (rm:∀ env,Room (A.deeper env) d) (hd:A.depth < 1000)
  (ok:Ok w.params h₀ σ H) (ta:TRs w.params σ as us) {R:Result→Shared→Prop} (post:G7 w.params h₀ σ q R):codeAny (model prog w) A (.call (.ref a) ⟨us,[]⟩) R σ.s:=by
 rcases hc:eO as with _ |cs
 ·unfold j9 at h
  rw [hc] at h
  exact lJ S Fo lim h rm hd ok ta post
 ·unfold j9 at h
  rw [hc] at h
  exact lJ (σ:=⟨σ.P,[],σ.s⟩) S Fo lim h rm hd ok.hide (sH hc ▸ oO (eW ta hc)) fun v H2 u P' s' hq g t=>post v H u P' s' hq (g.show ok) (sG t)
end
noncomputable def tbR (a:Nat) (ps:List Nat):Tb:=⟨fun _=>none,fun c=>if c=a then some (.mtb 0 ps) else none,fun _ _=>none⟩
noncomputable def mkR (T T':Tb) (r:Rec) (c:Nat→V→List V→List O→KV→Prop):Rec:=⟨cU T r,fJ r,c4 T' r,tC r,c⟩
noncomputable def yQ:Nat→V→List V→List O→KV→Prop:=fun _ _ _ _ _=>False
noncomputable def rI (T:Tb) (a:Nat) (ps:List Nat):Rec:=mkR T (tbR a ps) (mkR T T bot yQ) yQ
noncomputable def eJ:Nat:=1936026726
noncomputable def gZ (ps:List Nat):List Mine.S:=ps.map fun p=>.asg (.at (.var eJ) p) (.var p)
section
variable (prog:Program) (w:World) (h₀:Heap)
structure ClsOk (a fI:Nat):Prop where
 mk_:∀ {A:Around} {s:Shared} {R:Result→Shared→Prop} {us:List Value},Kept h₀ s.heap→
  codeAny (model prog w) (A.under (.builtin "type.__call__" ⟨.ref a::us,[]⟩)) (.call (.ref fI) ⟨.ref (s.heap.objs.size+1)::us,[]⟩) (InitBack (s.heap.objs.size+1) R) {s with heap:=(s.heap.push emptyDict).push (instObj a s.heap.objs.size)}→
  codeAny (model prog w) A (.call (.ref a) ⟨us,[]⟩) R s
end
theorem uJ {α:Type} {n:Nat} {v:α}:∀ {l:List (Nat × α)},n∉l.map (·.1)→put n v l=l++[(n,v)]
 | [],_=>rfl
 |p::l,h=>by
  rw [put,yE fun e=>h (by rw [← e];exact .head _)]
  exact congrArg (p::·) (uJ fun q=>h (.tail _ q))
theorem yR {n:Nat} {x:C}:∀ {qs:List Nat} {xs:List C},qs.Nodup→(n,x)∈qs.zip xs→lk (qs.zip (xs.map V.c)) n=some (.c x)
 | [],xs,_,h=>nomatch h
 |q::qs,[],_,h=>nomatch h
 |q::qs,y::xs,nd,h=>by
  rw [List.nodup_cons] at nd
  rcases h with _ | ⟨_,h⟩
  ·exact lk_self
  ·exact (gV (p:=(q,V.c y)) fun e=>nd.1 ((show q=n from e).symm ▸ (List.of_mem_zip h).1)).trans (yR nd.2 h)
theorem qO {T:Tb} {a d:Nat} {ps:List Nat} {vs:List (Nat × V)} {q:KF} (hs:lk vs eJ=some (.r 0)):∀ (qs:List Nat) (xs:List C) (fs:List (Nat × C)),fs.length+qs.length≤31→(∀ q∈qs,mem q ps=true)→qs.length=xs.length→(fs.map (·.1)++qs).Nodup→
  (∀ n x,(n,x)∈qs.zip xs→lk vs n=some (.c x))→q .nx ⟨d,vs⟩ [.ins a (fs++qs.zip xs)]→sts (rI T a ps) (gZ qs) ⟨d,vs⟩ [.ins a fs] q
 | [],xs,fs,_,_,hl,_,_,hq=>(List.append_nil fs) ▸ hq
 |p::qs,[],fs,_,_,hl,_,_,_=>nomatch hl
 |p::qs,x::xs,fs,hb,hm,hl,nd,hv,hq=>by
  have hok:(jT (tbR a ps) a p && Nat.ble fs.length 30)=true:=by
   have e:(tbR a ps).cl a=some (.mtb 0 ps):=if_pos rfl
   unfold jT
   rw [e]
   refine (?_:(mem p ps && _)=true)
   rw [hm p (.head _),Nat.ble_eq_true_of_le (Nat.le_of_succ_le_succ (Nat.le_trans (Nat.add_le_add_left (Nat.succ_le_succ (Nat.zero_le qs.length)) fs.length) hb))];rfl
  refine (?_:oo (lk vs p) fun v=>oo (lk vs eJ) fun w=>kR w fun n=>kC v fun x=>oo ([O.ins a fs][n]?) fun ob=>oo (JD ob) fun y=>kB (jT (tbR a ps) y.1 p && Nat.ble y.2.length 30) (sts (rI T a ps) (gZ qs) ⟨d,vs⟩ ([O.ins a fs].set n (.ins y.1 (put p x y.2))) q))
  refine ooI (hv p x (.head _)) (ooI hs (kBI hok (?_:sts (rI T a ps) (gZ qs) ⟨d,vs⟩ [.ins a (put p x fs)] q)))
  rw [uJ fun h=>(List.nodup_append.mp nd).2.2 p h p (.head _) rfl]
  refine qO hs qs xs (fs++[(p,x)]) ?_ (fun y hy=>hm y (.tail _ hy)) (Nat.succ.inj hl) ?_ (fun n y h=>hv n y (.tail _ h)) ?_
  ·rw [List.length_append,Nat.add_assoc]
   refine (?_:fs.length+(1+qs.length)≤31)
   rw [Nat.add_comm 1];exact hb
  ·rw [List.map_append,List.append_assoc];exact nd
  ·rw [List.append_assoc];exact hq
section
variable {prog:Program} {w:World} {h₀:Heap} {G:Nat→Option C} {T T':Tb} {r:Rec} (S:Snd prog w h₀ G r) (B:Base prog w h₀ G) (K:Op1 prog w h₀ T) (L:Op2 prog w h₀) (M:Op3 prog w h₀ T) (M':Op3 prog w h₀ T') (I4:Op4 prog w h₀) (D5:Op5 prog w)
variable {A:Around} {σ σ':Wd} {E:Value→Shared→Prop} {H H':List O} {q:KV}
theorem uK:Snd prog w h₀ G bot:=⟨fun h=>h,fun h=>h.elim,fun h=>h.elim,fun h=>h.elim,fun h=>h.elim,fun h=>h.elim,fun h=>h.elim,fun h=>h.elim⟩
include S B K L M M' I4 D5 in
theorem sJ {c:Nat→V→List V→List O→KV→Prop} (keep:∀ {d f as H q},c d f as H q→∀ {P:Fz} {φ:Phi} {h:Heap} {fu:Value},Kept h₀ h→TR w.params P φ f fu→eS prog w h fu)
  (call_:∀ {d f as H q},c d f as H q→∀ {A σ Q} {E:Value→Shared→Prop} {fu us},Room A d→TR w.params σ.P σ.φ f fu→TRs w.params σ as us→Ok w.params h₀ σ H→Sat w.params h₀ σ q Q→wpAny (model prog w) A (call fu us) Q E σ.s):Snd prog w h₀ G (mkR T T' r c):=
 ⟨fun h=>h,fun h=>h,fun h _ _ _ _ _ s post=>KU S B K L M I4 D5 h s post,fun h _ _ _ _ _ s post=>KW S K h s post,fun h _ _ _ _ _ s post=>KY S M' I4 h s post,fun h _ _ _ _ _ s post=>G5 S h s post,keep,call_⟩
theorem qP (A:Around) (a:Addr) (us:List Value):(A.under (.builtin "type.__call__" ⟨.ref a::us,[]⟩)).depth=A.depth+1:=rfl
theorem Room.cls {A:Around} {d:Nat} (x:Room A (d+1)) (a:Addr) (us:List Value) (env:Env):Room ((A.under (.builtin "type.__call__" ⟨.ref a::us,[]⟩)).deeper env) d:=
 ⟨x.handled,by have:=x.depth;show (A.under _).depth+1+_≤_;rw [qP];lia,by have:=x.units;show A.units+1+3+_≤_;lia⟩
include S in
theorem uL {a fI d:Nat} {f:FDef} {fd:FuncData} {ps:List Arg} {body:List Stmt} {ds:List Value} (Co:ClsOk prog w h₀ a fI) (Fo:FnOk w h₀ G fI f fd ps body ds) (lim:h₀.NoLimit) {as:List V} (h:iB r d f (.r H.length::as) (H++[.ins a []]) q) {us:List Value}
  (rm:Room A (d+1)) (ok:Ok w.params h₀ σ H) (ta:TRs w.params σ as us) {R:Result→Shared→Prop} (post:∀ v H' x dx P' s',q v H'→Go w.params h₀ bG σ ⟨P',σ.φ++[(x,dx)],s'⟩ H'→(v= .c .none→R (.ok (.ret (.ref x))) s')) (hn:∀ v H',q v H'→v= .c .none):
  codeAny (model prog w) A (.call (.ref a) ⟨us,[]⟩) R σ.s:=by
 refine Co.mk_ ok.kept ?_
 have gd:((σ.h.push emptyDict).push (instObj a σ.sz)).get? σ.sz=some (dO #[] 0):=Heap.get?_push_of_some _ (Heap.get?_push_size _ rfl)
 have gx:((σ.h.push emptyDict).push (instObj a σ.sz)).get? (σ.sz+1)=some (instObj a σ.sz):=by
  have:=Heap.get?_push_size (h:=σ.h.push emptyDict) (o:=instObj a σ.sz) rfl
  rw [Heap.size_push] at this;exact this
 have g1:Go w.params h₀ bG σ ⟨σ.P,σ.φ++[(σ.sz+1,σ.sz)],to σ.s ((σ.h.push emptyDict).push (instObj a σ.sz)) σ.s.toks⟩ (H++[.ins a []]):=
  ok.make (fun b o e=>Heap.get?_push_of_some _ (Heap.get?_push_of_some _ e)) (Nat.le_trans (aU _) (aU _)) (fun b q=>q.elim (fun e=>e ▸ Nat.le_succ _) fun e=>Nat.le_of_eq e.symm) (.ins gx gd (Nat.succ_ne_self _) rfl)
 refine lJ (σ:=⟨σ.P,σ.φ++[(σ.sz+1,σ.sz)],to σ.s ((σ.h.push emptyDict).push (instObj a σ.sz)) σ.s.toks⟩) S Fo lim h (fun env=>rm.cls a us env) (by rw [qP];have:=rm.depth;lia) g1.ok (.cons (oK (s:=σ.s) ok rfl) (g1.le.trs ta)) fun v H' u P' s' hq g t=> ?_
 have e:=hn v H' hq
 subst e
 cases (t:u= .none)
 exact ⟨rfl,post _ H' _ _ P' s' hq (g1.trans g) rfl⟩
include B K L M I4 D5 in
theorem vU {a fI d:Nat} {f:FDef} {fd:FuncData} {ps:List Arg} {body:List Stmt} {ds:List Value} (Co:ClsOk prog w h₀ a fI) (Fo:FnOk w h₀ G fI f fd ps body ds) (lim:h₀.NoLimit) {qs:List Nat} (MR:Op3 prog w h₀ (tbR a qs))
  (hq31:qs.length≤31) (e1:f.ps=eJ::qs) (e2:f.body=gZ qs) {cs:List C} {fs:List (Nat × C)} (h:eL qs f.ds cs=some fs) {us:List Value} (rm:Room A (d+1)) (ok:Ok w.params h₀ σ H) (ta:CRs w.params σ.P cs us)
  {R:Result→Shared→Prop} (hq:q (.c (.ins a fs)) H) (post:G7 w.params h₀ σ q R):codeAny (model prog w) A (.call (.ref a) ⟨us,[]⟩) R σ.s:=by
 obtain ⟨l1,l2,e⟩:=mY h
 have nd:(eJ::qs).Nodup:=e1 ▸ Fo.nodup
 generalize hxs:cs++f.ds.drop (cs.length+f.ds.length - qs.length)=xs at e
 subst e
 have hxl:qs.length=xs.length:=by rw [← hxs,List.length_append,List.length_drop];lia
 have hbind:eL f.ps (f.ds.map .c) (V.r 0::cs.map V.c)=some ((eJ,V.r 0)::qs.zip (xs.map V.c)):=by
  unfold eL
  rw [e1,List.length_cons,List.length_cons,List.length_map,List.length_map,Nat.ble_eq_true_of_le (Nat.succ_le_succ l1),Nat.ble_eq_true_of_le (show qs.length+1≤cs.length+1+f.ds.length by lia),← hxs,List.map_append,List.map_drop]
  refine (?_:some (List.zip (eJ::qs) (V.r 0::(cs.map V.c++_)))=_)
  rw [show cs.length+1+f.ds.length - (qs.length+1)=cs.length+f.ds.length - qs.length by lia];rfl
 have S1:Snd prog w h₀ G (rI T a qs):=sJ (sJ uK B K L M M I4 D5 (fun h=>h.elim) fun h=>h.elim) B K L M MR I4 D5 (fun h=>h.elim) fun h=>h.elim
 have hF:iB (rI T a qs) d f (V.r 0::cs.map V.c) [.ins a []] fun v H'=>v= .c .none∧H'=[.ins a (qs.zip xs)]:=
  ooI hbind (e2 ▸ qO lk_self qs xs [] (by rw [List.length_nil,Nat.zero_add];exact hq31) (fun q hq=>mem_iff.mpr hq) hxl (List.nodup_cons.mp nd).2 (fun n x h=>(gV (p:=(eJ,V.r 0)) fun e=>(List.nodup_cons.mp nd).1 ((show eJ=n from e).symm ▸ (List.of_mem_zip h).1)).trans (yR (List.nodup_cons.mp nd).2 h)) ⟨rfl,rfl⟩)
 refine uL (σ:=⟨σ.P,[],σ.s⟩) (H:=[]) S1 Co Fo lim hF rm ok.hide (oO ta) (fun v H' x dx P' s' h g _=> ?_) fun v H' h=>h.1
 obtain ⟨_,rfl⟩:=h
 exact post _ H (.ref x) _ s' hq ((g.cut ok.hide fun _ q=>q.elim).show ok) (jD (n:=0) ok.hide g (Nat.zero_le _) rfl ⟨(x,dx),rfl,rfl⟩)
end
section
variable (prog:Program) (w:World) (h₀:Heap) (G:Nat→Option C) (T:Tb)
structure TbOk:Prop where
 lim:h₀.NoLimit
 fn:∀ {a f},T.fn a=some f→∃ fd ps body ds,FnOk w h₀ G a f fd ps body ds
 rcd:∀ {a qs dv},T.cl a=some (.rcd qs dv)→∃ fI f fd ps body ds,ClsOk prog w h₀ a fI∧FnOk w h₀ G fI f fd ps body ds∧f.ps=eJ::qs∧f.ds=dv∧f.body=gZ qs∧Op3 prog w h₀ (tbR a qs)∧qs.length≤31
 mtb:∀ {a i fl},T.cl a=some (.mtb i fl)→ClsOk prog w h₀ a i
 keep:∀ {a},(∃ f,T.fn a=some f)∨(∃ c,T.cl a=some c)→∀ h,Kept h₀ h→eS prog w h (.ref a)
end
section
variable {prog:Program} {w:World} {h₀:Heap} {G:Nat→Option C} {T:Tb} {r:Rec} (S:Snd prog w h₀ G r) (B:Base prog w h₀ G) (K:Op1 prog w h₀ T) (L:Op2 prog w h₀) (M:Op3 prog w h₀ T) (I4:Op4 prog w h₀) (D5:Op5 prog w) (L6:Op6 prog w h₀) (Y:TbOk prog w h₀ G T)
variable {A:Around} {σ:Wd} {E:Value→Shared→Prop} {H:List O} {q:KV}
theorem Room.zero {A:Around} {d:Nat} (x:Room A d):Room A 0:=⟨x.handled,Nat.le_trans (Nat.le_add_right ..) x.depth,x.u⟩
include L6 Y in
theorem vV {d:Nat} {f:V} {as:List V} (h:pE T r d f as H q) {P:Fz} {φ:Phi} {hp:Heap} {fu:Value} (kp:Kept h₀ hp) (t:TR w.params P φ f fu):eS prog w hp fu:=by
 refine kCE h fun c e h=> ?_
 have t:=t.c e
 clear e
 rcases c with _ |_ <;> first |exact h.elim |skip
 ·rename_i a
  rcases d with _ |d
  ·exact h.elim
  ·subst t
   refine Y.keep ?_ hp kp
   replace h:eT T r d a as H q:=h
   unfold eT at h
   rcases e:T.fn a with _ |f
   ·rw [e] at h
    exact .inr (ooE h fun c e _=>⟨c,e⟩)
   ·exact .inl ⟨f,rfl⟩
 ·subst t;exact L6.keepT _ hp
 ·subst t;exact iK
include S B K L M I4 D5 Y in
theorem G8 {d a:Nat} {as:List V} (h:eT T r d a as H q) {us:List Value} (rm:Room A (d+1)) (ta:TRs w.params σ as us) (ok:Ok w.params h₀ σ H) {R:Result→Shared→Prop} (post:∀ v H' u σ',q v H'→Go w.params h₀ bG σ σ' H'→TR w.params σ'.P σ'.φ v u→R (.ok (.ret u)) σ'.s):
  codeAny (model prog w) A (.call (.ref a) ⟨us,[]⟩) R σ.s:=by
 unfold eT at h
 have dp:A.depth < 1000:=by have:=rm.depth;lia
 rcases hf:T.fn a with _ |f
 ·rw [hf] at h
  refine ooE h fun c hc h=> ?_
  rcases c with ⟨qs,dv⟩ | ⟨i,fl⟩
  ·refine ooE h fun cs hcs h=>ooE h fun fs hfs hq=> ?_
   obtain ⟨fI,f,fd,ps,body,ds,Co,Fo,e1,e2,e3,MR,hl⟩:=Y.rcd hc
   exact vU (q:=q) B K L M I4 D5 Co Fo Y.lim MR hl e1 e3 (e2 ▸ hfs) rm ok (eW ta hcs) hq fun v H' u P' s' hq g t=>post v H' u ⟨P',σ.φ,s'⟩ hq g t
  ·refine ooE h fun f hf h=> ?_
   obtain ⟨fd,ps,body,ds,Fo⟩:=Y.fn hf
   refine uL S (Y.mtb hc) Fo Y.lim h rm ok ta (fun v H' x dx P' s' hq g e=> ?_) fun v H' h=>kBE h fun h _=>qG h
   exact kBE hq fun _ hq=>post _ H' (.ref x) ⟨P',σ.φ++[(x,dx)],s'⟩ hq g (oK (p:=(x,dx)) (s:=σ.s) ok rfl)
 ·rw [hf] at h
  obtain ⟨fd,ps,body,ds,Fo⟩:=Y.fn hf
  exact yP S Fo Y.lim h (fun env=>rm.down env) dp ok ta fun v H' u P' s' hq g t=>post v H' u ⟨P',σ.φ,s'⟩ hq g t
include S B K L M I4 D5 L6 Y in
theorem C7 {d:Nat} {f:V} {as:List V} (h:pE T r d f as H q) {Q:Value→Shared→Prop} {fu:Value} {us:List Value} (rm:Room A d) (tf:TR w.params σ.P σ.φ f fu) (ta:TRs w.params σ as us) (ok:Ok w.params h₀ σ H) (post:Sat w.params h₀ σ q Q):
  wpAny (model prog w) A (call fu us) Q E σ.s:=by
 refine kCE h fun c e h=> ?_
 have t:=tf.c e
 clear e tf
 rcases c with _ |_ <;> first |exact h.elim |skip
 ·rcases d with _ |d
  ·exact h.elim
  ·subst t
   exact wpAny_call (G8 S B K L M I4 D5 Y h rm ta ok post)
 ·subst t
  exact ooE h fun cs hcs h=>ooE h fun x hx h=>L6.typ hx rm.zero ok.kept ok.inh (r7 ok ta hcs) (lB ok h post)
 ·subst t
  exact ooE h fun cs hcs h=>ooE h fun x hx h=>L6.blt hx rm.zero ok.kept ok.inh (r7 ok ta hcs) (lB ok h post)
include B K L M I4 D5 L6 Y in
theorem sound:∀ n,Snd prog w h₀ G (run T n)
 |0=>uK
 |n+1=>sJ (sound n) B K L M M I4 D5 (fun h _ _ _ _ kp t=>vV L6 Y h kp t) fun h _ _ _ _ _ _ rm tf ta ok post=>C7 (sound n) B K L M I4 D5 L6 Y h rm tf ta ok post
end
section
variable {prog:Program} {w:World} {A:Around} {E:Value→Shared→Prop} {s:Shared} {P:Fz} {Q:Value→Shared→Prop} {W:Params}
theorem KZ {i:Int} (post:aS w.params P s (.int i) Q) {h:Heap} (hh:h=s.heap) (tk t:Nat):Q (.int i t) {s with toks:=tk}:=post (.int i t) s.heap tk (fun _ _ e=>e) (Nat.le_refl _) ⟨t,rfl⟩
theorem opI {i:Int} (post:aS w.params P s (.int i) Q) (tk t:Nat):Q (.int i t) {s with toks:=tk}:=KZ post rfl tk t
theorem opS {x:Str} (post:aS w.params P s (.str x.cps.toList) Q) (tk t:Nat):Q (.str x t) {s with toks:=tk}:=post (.str x t) s.heap tk (fun _ _ e=>e) (Nat.le_refl _) ⟨x,t,rfl,rfl⟩
theorem opY {b:Array UInt8} (post:aS w.params P s (.byt (b.toList.map UInt8.toNat)) Q) (tk t:Nat):Q (.bytes b t) {s with toks:=tk}:=post (.bytes b t) s.heap tk (fun _ _ e=>e) (Nat.le_refl _) ⟨b,t,rfl,rfl⟩
theorem opL {l:List C} {ws:Array Value} {h':Heap} {tk:Nat} (post:aS w.params P s (.lst l) Q) (hh:h'=s.heap.push {cls:=.type "list",data:=.seq ws}) (c:CRs w.params P l ws.toList):Q (.ref s.heap.objs.size) {s with heap:=h',toks:=tk}:=by
 subst hh
 refine post _ _ tk (a8 _) (aU _) ⟨_,_,ws,0,rfl,gK rfl,rfl,rfl,bW (fun a o e=>.inl e) _ _ c⟩
theorem opT {l:List C} {ws:Array Value} {h':Heap} {tk:Nat} (post:aS w.params P s (.tup l) Q) (hh:h'=s.heap.push {cls:=.type "tuple",data:=.seq ws}) (c:CRs w.params P l ws.toList):Q (.ref s.heap.objs.size) {s with heap:=h',toks:=tk}:=by
 subst hh
 refine post _ _ tk (a8 _) (aU _) ⟨_,_,ws,0,rfl,gK rfl,rfl,rfl,bW (fun a o e=>.inl e) _ _ c⟩
theorem lK {i:Int} (h:g9 i=true):Builtin.Int.intBits i≤64:=by
 have h1:i.natAbs < big:=Nat.le_of_ble_eq_true h
 unfold big at h1
 exact intBits_le_64 (by lia) (by lia)
theorem qQ {l:List C} {ws:List Value} (h:CRs W P l ws):∀ n,CRs W P (List.replicate n l).flatten (List.replicate n ws).flatten
 |0=>rfl
 |n+1=>by
  rw [List.replicate_succ,List.replicate_succ,List.flatten_cons,List.flatten_cons]
  exact dB h (qQ h n)
theorem G9 {op:Operator} {a b x:C} (h:vF op a b=some x) {u v:Value} (inh:Inh P s.heap) (ta:TopR w.params P s.heap a u) (tb:TopR w.params P s.heap b v) (post:aS w.params P s x Q):wpAny (model prog w) A (binaryOp op u v) Q E s:=by
 have inv:∀ {f:Int→Int→Option C},i2 f a b=some x→∃ i j t t',u= .int i t∧v= .int j t'∧f i j=some x:=by
  intro f g
  replace g:=FV g
  obtain ⟨i,j,rfl,rfl,g⟩:=g
  obtain ⟨t,rfl⟩:=ta
  obtain ⟨t',rfl⟩:=tb
  exact ⟨i,j,t,t',rfl,rfl,g⟩
 cases op
 case Add=>
  cases a
  case int i=>
   replace h:=bI h
   obtain ⟨j,rfl,h⟩:=h
   obtain ⟨t,rfl⟩:=ta
   obtain ⟨t',rfl⟩:=tb
   cases h
   exact PyProof.Rows.add_int (opI post _ _)
  case byt l=>
   replace h:=bB h
   obtain ⟨l2,rfl,h⟩:=h
   replace h:=ifS h
   obtain ⟨hl,h⟩:=h
   subst h
   obtain ⟨b1,t,rfl,rfl⟩:=ta
   obtain ⟨b2,t',rfl,rfl⟩:=tb
   rw [List.length_map,List.length_map,Array.length_toList,Array.length_toList] at hl
   unfold lim at hl
   refine KBy.add_bytes (by lia) fun t' k=> ?_
   rw [← List.map_append,← Array.toList_append] at post
   exact opY post _ _
  case str l=>
   replace h:=bS h
   obtain ⟨l2,rfl,h⟩:=h
   replace h:=ifS h
   obtain ⟨hl,h⟩:=h
   subst h
   obtain ⟨b1,t,rfl,rfl⟩:=ta
   obtain ⟨b2,t',rfl,rfl⟩:=tb
   rw [Array.length_toList,Array.length_toList] at hl
   unfold lim at hl
   refine PyProof.Rows.add_str (fun t' k=> ?_) (by rw [sizeLine_eq];show b1.cps.size+b2.cps.size≤_;lia)
   have e:b1.cps.toList++b2.cps.toList=(b1++b2).cps.toList:=by
    show _=(b1.cps++b2.cps).toList
    rw [Array.toList_append]
   rw [e] at post
   exact opS post _ _
  case tup la=>
   replace h:=bT h
   obtain ⟨lb,rfl,h⟩:=h
   replace h:=ifS h
   obtain ⟨hl,h⟩:=h
   subst h
   obtain ⟨a1,o1,ws1,n1,rfl,p1,c1,d1,r1⟩:=ta
   obtain ⟨a2,o2,ws2,n2,rfl,p2,c2,d2,r2⟩:=tb
   obtain ⟨oc1,dd1,od1,sl1⟩:=o1
   obtain ⟨oc2,dd2,od2,sl2⟩:=o2
   have e1:=(Prod.mk.inj c1).2
   replace c1:=cls1 c1
   have e2:=(Prod.mk.inj c2).2
   replace c2:=cls1 c2
   dsimp only at c1 d1 c2 d2
   subst c1;subst d1;subst c2;subst d2
   have g1:=inh _ _ p1
   have g2:=inh _ _ p2
   have l1:=bV r1
   have l2:=bV r2
   rw [Array.length_toList] at l1 l2
   unfold lim at hl
   by_cases hv:ws1= #[]
   ·subst hv
    have:la=[]:=List.length_eq_zero_iff.mp (by rw [← l1];rfl)
    subst this
    refine concat_meets ⟨_,g1,rfl⟩ ⟨_,g2,rfl⟩ noFill_tuple_add seq_tuple_add PySem.F.slot_tuple_add PySem.F.entry_tuple_add (PySem.F.args_tuple_add_2 _ _)
     (tuple_addW0 a1 a2 #[] ws2 n1 n2 dd1 dd2 sl1 sl2 rfl) ⟨g1,g2,?_⟩
    exact post _ s.heap s.toks (fun _ _ e=>e) (Nat.le_refl _) ⟨a2,_,ws2,n2,rfl,.inl p2,Prod.ext rfl e2,rfl,bW (fun a o e=>.inl e) _ _ r2⟩
   ·by_cases hw:ws2= #[]
    ·subst hw
     have:lb=[]:=List.length_eq_zero_iff.mp (by rw [← l2];rfl)
     subst this
     refine concat_meets ⟨_,g1,rfl⟩ ⟨_,g2,rfl⟩ noFill_tuple_add seq_tuple_add PySem.F.slot_tuple_add PySem.F.entry_tuple_add (PySem.F.args_tuple_add_2 _ _)
      (tuple_addW1 a1 a2 ws1 #[] n1 n2 dd1 dd2 sl1 sl2 (by simpa using hv) rfl) ⟨g1,g2,?_⟩
     exact post _ s.heap s.toks (fun _ _ e=>e) (Nat.le_refl _) ⟨a1,_,ws1,n1,rfl,.inl p1,Prod.ext rfl e1,rfl,bW (fun a o e=>.inl e) _ _ (by rw [List.append_nil];exact r1)⟩
    ·refine concat_meets ⟨_,g1,rfl⟩ ⟨_,g2,rfl⟩ noFill_tuple_add seq_tuple_add PySem.F.slot_tuple_add PySem.F.entry_tuple_add (PySem.F.args_tuple_add_2 _ _)
      (tuple_addW2 a1 a2 ws1 ws2 n1 n2 dd1 dd2 sl1 sl2 (by simpa using hv) (by simpa using hw) (by rw [sizeLine_eq];lia)) ⟨g1,g2,?_⟩
     exact opT (tk:=s.toks) post rfl (by rw [Array.toList_append];exact dB r1 r2)
  case lst la=>
   replace h:=bL h
   obtain ⟨lb,rfl,h⟩:=h
   replace h:=ifS h
   obtain ⟨hl,h⟩:=h
   subst h
   obtain ⟨a1,o1,ws1,n1,rfl,g1,c1,d1,r1⟩:=ta
   obtain ⟨a2,o2,ws2,n2,rfl,g2,c2,d2,r2⟩:=tb
   obtain ⟨oc1,dd1,od1,sl1⟩:=o1
   obtain ⟨oc2,dd2,od2,sl2⟩:=o2
   have e1:=(Prod.mk.inj c1).2
   replace c1:=cls1 c1
   have e2:=(Prod.mk.inj c2).2
   replace c2:=cls1 c2
   dsimp only at c1 d1 c2 d2
   subst c1;subst d1;subst c2;subst d2
   have l1:=bV r1
   have l2:=bV r2
   rw [Array.length_toList] at l1 l2
   unfold lim at hl
   refine concat_meets ⟨_,g1,rfl⟩ ⟨_,g2,rfl⟩ noFill_list_add seq_list_add PySem.F.slot_list_add PySem.F.entry_list_add (PySem.F.args_list_add_2 _ _)
    (list_addW a1 a2 ws1 ws2 n1 n2 dd1 dd2 sl1 sl2 (by rw [sizeLine_eq];lia)) ⟨g1,g2,?_⟩
   exact opL (tk:=s.toks) post rfl (by rw [Array.toList_append];exact dB r1 r2)
  all_goals cases h
 case Sub=>
  replace h:=inv h
  obtain ⟨i,j,t,t',rfl,rfl,h⟩:=h
  cases h
  exact PyProof.Rows.sub_int (opI post _ _)
 case Mult=>
  cases a
  case int i=>
   replace h:=bI h
   obtain ⟨j,rfl,h⟩:=h
   replace h:=ifS h
   obtain ⟨hs,h⟩:=h
   subst h
   obtain ⟨t,rfl⟩:=ta
   obtain ⟨t',rfl⟩:=tb
   rw [Bool.or_eq_true] at hs
   exact PyProof.Rows.mul_int (opI post _ _) (hs.elim (fun q=>.of_left (lK q)) fun q=>.of_right (lK q))
  case lst la=>
   replace h:=bI h
   obtain ⟨n,rfl,h⟩:=h
   replace h:=ifS h
   obtain ⟨hc,h⟩:=h
   subst h
   obtain ⟨a1,o1,ws1,n1,rfl,g1,c1,d1,r1⟩:=ta
   obtain ⟨t',rfl⟩:=tb
   obtain ⟨oc1,dd1,od1,sl1⟩:=o1
   have e1:=(Prod.mk.inj c1).2
   replace c1:=cls1 c1
   dsimp only at c1 d1
   subst c1;subst d1
   have l1:=bV r1
   rw [Array.length_toList] at l1
   have hsz:ws1.size * n.toNat≤16:=by
    have:ws1.size≤4:=by lia
    have:n.toNat≤4:=by lia
    exact Nat.mul_le_mul ‹ws1.size≤4› ‹n.toNat≤4›
   refine wpAny_binaryOp_repeat_ref (T:="list") (U:="int") (by decide) ⟨_,g1,rfl⟩ (fun s'=>typeIs_int s' n t') noFill_list_mul F.fills_int_mul F.slot_int_rmul repeat_list F.slot_int_index.lookup
    (call_meets F.slot_int_rmul (typeIs_int s n t') F.entry_int_rmul (F.args_int_rmul_2 _ _) (lm_int_rmul_list_any n t' a1 ws1 n1 dd1 sl1)
     ⟨g1,rfl,⟨_,g1,rfl⟩,call_meets F.slot_list_mul ⟨_,g1,rfl⟩ F.entry_list_mul (F.args_list_mul_2 _ _)
      (lm_list_mul_any a1 ws1 n1 dd1 sl1 n t' (by simp [Builtin.List.listFitsIndex];lia) (by lia) (by simp [Builtin.List.listTooLong,sizeLine];lia))
      ⟨g1,?_⟩⟩)
   rw [listMul_foldl_if]
   exact opL (tk:=s.toks) post rfl (qQ r1 _)
  all_goals cases h
 case FloorDiv=>
  replace h:=inv h
  obtain ⟨i,j,t,t',rfl,rfl,h⟩:=h
  replace h:=ifN h
  obtain ⟨hb,h⟩:=h
  replace h:=ifS h
  obtain ⟨hs,h⟩:=h
  subst h
  exact PyProof.Rows.floordiv_int hb (opI post _ _) (.inl (PyProof.noPylong_small (Nat.le_of_ble_eq_true hs)))
 case Mod=>
  replace h:=inv h
  obtain ⟨i,j,t,t',rfl,rfl,h⟩:=h
  replace h:=ifN h
  obtain ⟨hb,h⟩:=h
  cases h
  exact PyProof.Rows.mod_int hb (opI post _ _)
 case LShift=>
  replace h:=inv h
  obtain ⟨i,j,t,t',rfl,rfl,h⟩:=h
  replace h:=ifS h
  obtain ⟨hs,h⟩:=h
  subst h
  rw [Bool.and_eq_true,decide_eq_true_eq] at hs
  have h1:=Nat.le_of_ble_eq_true hs.1
  unfold big at h1
  exact PyProof.Rows.lshift_int_small hs.2.1 (by lia) (by lia) (opI post _ _)
 case RShift=>
  replace h:=inv h
  obtain ⟨i,j,t,t',rfl,rfl,h⟩:=h
  replace h:=ifS h
  obtain ⟨hs,h⟩:=h
  subst h
  exact PyProof.Rows.rshift_int hs.1 (opI post _ _)
 case BitAnd=>
  replace h:=inv h
  obtain ⟨x1,y1,t,t',rfl,rfl,h⟩:=h
  replace h:=ifS h
  obtain ⟨hs,h⟩:=h
  subst h
  refine PyProof.Rows.and_int ?_
  have e:Builtin.bitAnd x1 y1=((Nat.land x1.toNat y1.toNat:Nat):Int):=by
   unfold Builtin.bitAnd
   rw [decide_eq_true hs.1,decide_eq_true hs.2];rfl
  rw [e]
  exact opI post _ _
 all_goals cases h
end
section
variable {prog:Program} {w:World} {A:Around} {E:Value→Shared→Prop} {s:Shared} {P:Fz} {Q:Value→Shared→Prop}
theorem Walks.weak {I:Addr} {fp wr:List Addr} {n:Nat} {R R':Nat→Value→Prop} {St:Nat→Heap→Prop} (W:Walks prog w A I fp wr n R St) (h:∀ i v,R i v→R' i v):Walks prog w A I fp wr n R' St where
 sub:=W.sub
 frame:=W.frame
 item:=fun i s Q E hi st hQ=>W.item i s Q E hi st fun v h' tk r st' k=>hQ v h' tk (h i v r) st' k
 done:=W.done
 self:=W.self
theorem oP {W:Params} {P:Fz}:∀ {l:List C} {ws:List Value} {i:Nat} {v:Value},CRs W P l ws→ws[i]? =some v→∃ c,l[i]? =some c∧CR W P c v
 | [],ws,i,v,h,e=>by have:ws=[]:=h;subst this;simp at e
 |c::l,_,i,v,⟨u,r,rfl,a,h⟩,e=>by
  cases i with
  |zero=>simp at e;subst e;exact ⟨c,rfl,a⟩
  |succ i=>
   obtain ⟨c',e',q⟩:=oP (i:=i) h (by simpa using e)
   exact ⟨c',by simpa using e',q⟩
theorem qR:∀ (n:Nat) (a c:Int) (i:Nat),i < n→(l6 a c n)[i]? =some (.int (a+i * c))
 |0,_,_,_,h=>by lia
 |n+1,a,c,i,h=>by
  cases i with
  |zero=>simp [l6]
  |succ i=>
   show (l6 (a+c) c n)[i]? =_
   rw [qR n (a+c) c i (by lia)]
   congr 2
   push_cast
   rw [Int.add_mul,Int.one_mul];lia
theorem qS:∀ (n:Nat) (a c:Int),(l6 a c n).length=n
 |0,_,_=>rfl
 |n+1,a,c=>by simp [l6,qS n]
theorem C8 {a b c:Int}:((nK a b c:Nat):Int)=Builtin.Range.rangeSize a b c:=by
 unfold nK Builtin.Range.rangeSize
 by_cases h:0 < c
 ·rw [if_pos h,if_pos h]
  split
  ·have:=Int.ediv_nonneg (a:=b - a - 1) (b:=c) (by lia) (by lia)
   rw [Int.toNat_of_nonneg (by lia)]
  ·rfl
 ·rw [if_neg h,if_neg h]
  split
  ·have:0≤(a - b - 1) / (-c):=Int.ediv_nonneg (by lia) (by lia)
   rw [Int.toNat_of_nonneg (by lia)]
  ·rfl
theorem C9 {c:C} {cs:List C} (hc:eP c=some cs) {u:Value} (hA:A.handled=none) (inh:Inh P s.heap) (t:CR w.params P c u)
  (hQ:∀ I fp St h' tk,Iter prog w A P cs I fp St→St 0 h'→Kept s.heap h'→s.heap.objs.size≤h'.objs.size→s.heap.objs.size≤I→(∀ b∈fp,b=I∨∃ o,P b o)→Q (.ref I) {s with heap:=h',toks:=tk}):wpAny (model prog w) A (pyIter u) Q E s:=by
 rcases c with _ |_ |_ |l |l |l |l | ⟨a,b,c⟩ |_ |_ |_ |_ |_ |_
 case lst=>
  ·obtain ⟨_,rfl⟩:=ifS hc
   obtain ⟨a,o,ws,n,rfl,p,hcl,hd,r⟩:=t
   replace hcl:=cls1 hcl
   have g:=inh _ _ p
   have hl:s.heap.IsList a ws:=⟨o,g,hcl,n,hd⟩
   have ne:a≠s.heap.objs.size:=Nat.ne_of_lt (Heap.lt_size g)
   have len:=bV r
   rw [Array.length_toList] at len
   refine wpAny_pyIter_list hl (hQ _ [s.heap.objs.size,a] (fun i h=>h.IsListIter s.heap.objs.size a i∧h.IsList a ws) _ _ ⟨?_,?_⟩ ⟨⟨_,Heap.get?_push_size _ rfl,rfl,rfl⟩,hl.push _⟩ (a8 _) (aU _) (Nat.le_refl _) ?_)
   ·have W:=Walks.list (prog:=prog) (w:=w) hA s.heap.objs.size a ne ws
    rw [len] at W
    exact Walks.weak W fun i v e=>oP r (by rw [Array.getElem?_toList];exact e)
   ·rintro i h ⟨⟨o',ho',hc',_⟩,_⟩
    exact ⟨o',_,ho',hc',by decide⟩
   ·exact fun b hb=>(List.mem_cons.mp hb).elim .inl fun hb=>.inr ⟨o,List.mem_singleton.mp hb ▸ p⟩
 case tup=>
  ·obtain ⟨_,rfl⟩:=ifS hc
   obtain ⟨a,o,ws,n,rfl,p,hcl,hd,r⟩:=t
   replace hcl:=cls1 hcl
   have g:=inh _ _ p
   have hl:s.heap.IsTuple a ws:=⟨o,g,hcl,n,hd⟩
   have ne:a≠s.heap.objs.size:=Nat.ne_of_lt (Heap.lt_size g)
   have len:=bV r
   rw [Array.length_toList] at len
   refine wpAny_pyIter_tuple hl (hQ _ [s.heap.objs.size,a] (fun i h=>h.IsTupleIter s.heap.objs.size a i∧h.IsTuple a ws) _ _ ⟨?_,?_⟩ ⟨⟨_,Heap.get?_push_size _ rfl,rfl,rfl⟩,hl.at fun o e=>a8 _ _ _ e⟩ (a8 _) (aU _) (Nat.le_refl _) ?_)
   ·have W:=Walks.tuple (prog:=prog) (w:=w) hA s.heap.objs.size a ne ws
    rw [len] at W
    exact Walks.weak W fun i v e=>oP r (by rw [Array.getElem?_toList];exact e)
   ·rintro i h ⟨⟨o',ho',hc',_⟩,_⟩
    exact ⟨o',_,ho',hc',by decide⟩
   ·exact fun b hb=>(List.mem_cons.mp hb).elim .inl fun hb=>.inr ⟨o,List.mem_singleton.mp hb ▸ p⟩
 case byt=>
  ·obtain ⟨_,rfl⟩:=ifS hc
   obtain ⟨b,t,rfl,rfl⟩:=t
   refine KBw.pyIter_bytes (hQ _ [s.heap.objs.size] (fun i h=>KBw.IsBytesIter h s.heap.objs.size b t i) _ _ ⟨?_,?_⟩ ⟨_,Heap.get?_push_size _ rfl,rfl,rfl⟩ (a8 _) (aU _) (Nat.le_refl _) ?_)
   ·have W:=KBw.walks (prog:=prog) (w:=w) hA s.heap.objs.size b t
    rw [show b.size=((b.toList.map UInt8.toNat).map fun n=>C.int (n:Nat)).length by simp] at W
    refine Walks.weak W ?_
    rintro i v ⟨c,u,e,rfl⟩
    refine ⟨.int c.toNat,?_,u,rfl⟩
    rw [← Array.getElem?_toList] at e
    simp [e]
   ·rintro i h ⟨o',ho',hc',_⟩
    exact ⟨o',_,ho',hc',by decide⟩
   ·exact fun b hb=>.inl (List.mem_singleton.mp hb)
 case str=>
  ·obtain ⟨_,rfl⟩:=ifS hc
   obtain ⟨x,t,rfl,rfl⟩:=t
   have fin:∀ {St:Nat→Heap→Prop} {o:Obj},Walks prog w A s.heap.objs.size [s.heap.objs.size] [s.heap.objs.size] x.cps.size (SignAt x) St→(∀ i h,St i h→IsIter h s.heap.objs.size)→St 0 (s.heap.push o)→
     Q (.ref s.heap.objs.size) {s with heap:=s.heap.push o}:=by
    intro St o W hcls st
    refine hQ _ [s.heap.objs.size] _ _ _ ⟨?_,hcls⟩ st (a8 _) (aU _) (Nat.le_refl _) ?_
    ·rw [show x.cps.size=(x.cps.toList.map fun n=>C.str [n]).length by simp] at W
     refine Walks.weak W ?_
     rintro i v ⟨c,u,e,rfl⟩
     refine ⟨.str [c],?_,⟨#[c]⟩,u,rfl,rfl⟩
     rw [← Array.getElem?_toList] at e
     simp [e]
    ·exact fun b hb=>.inl (List.mem_singleton.mp hb)
   cases ha:x.cps.all (· < 128)
   ·refine wpAny_pyIter_wide ha (fin (Walks.strWide hA _ x t) ?_ ⟨_,Heap.get?_push_size _ rfl,rfl,rfl⟩)
    rintro i h ⟨o',ho',hc',_⟩
    exact ⟨o',_,ho',hc',by decide⟩
   ·refine wpAny_pyIter_ascii ha (fin (Walks.strAscii hA _ x t) ?_ ⟨_,Heap.get?_push_size _ rfl,rfl,rfl⟩)
    rintro i h ⟨o',ho',hc',_⟩
    exact ⟨o',_,ho',hc',by decide⟩
 case rng=>
  obtain rfl:=Option.some.inj hc
  obtain ⟨r,ta,tb,tc,rfl,p,hsm⟩:=t
  have g:=inh _ _ p
  refine wpAny_pyIter_range g hsm (hQ _ [s.heap.objs.size] (fun i h=>IsRangeIter h s.heap.objs.size (a+(i:Nat) * c) ((nK a b c:Int) - (i:Nat)) c) _ _ ⟨?_,?_⟩ ?_ (a8 _) (aU _) (Nat.le_refl _) ?_)
  ·have W:=Walks.range (prog:=prog) (w:=w) hA s.heap.objs.size a c (nK a b c)
   have hl:=qS (nK a b c) a c
   rw [hl]
   refine ⟨W.sub,W.frame,fun i s Q E hi st hQ=>W.item i s Q E hi st fun v h' tk r st' k=>hQ v h' tk ?_ st' k,W.done,W.self⟩
   obtain ⟨t,rfl⟩:=r
   exact ⟨_,qR _ a c i hi,t,rfl⟩
  ·rintro i h hh
   exact ⟨_,_,hh,rfl,by decide⟩
  ·show Heap.get? _ _=_
   rw [Heap.get?_push_size _ rfl,← C8]
   simp
  ·exact fun b hb=>.inl (List.mem_singleton.mp hb)
 all_goals exact nn hc
theorem yS {a:Addr} {n:Nat} (hA:A.handled=none) (na:a≠1) (g:s.heap.get? a=some (dO #[] n))
  (hQ:∀ I h' tk,Kept s.heap h'→s.heap.objs.size≤h'.objs.size→s.heap.objs.size≤I→IsIter h' I→
   (∀ {Q':Option Value→Shared→Prop} {E':Value→Shared→Prop},(∀ h'' tk',(∀ b o,b≠I→h'.get? b=some o→h''.get? b=some o)→Q' none {s with heap:=h'',toks:=tk'})→wpAny (model prog w) A (pyNext (.ref I)) Q' E' {s with heap:=h',toks:=tk})→
   (∀ {Q':Value→Shared→Prop} {E':Value→Shared→Prop} {s':Shared},s'.heap.get? I=h'.get? I→Q' (.ref I) s'→wpAny (model prog w) A (pyIter (.ref I)) Q' E' s')→
   Q (.ref I) {s with heap:=h',toks:=tk}):wpAny (model prog w) A (pyIter (.ref a)) Q E s:=by
 have ne:a≠s.heap.objs.size:=Nat.ne_of_lt (Heap.lt_size g)
 have hD:s.heap.DictAt (PySem.strKind prog w) a [] n:=⟨_,#[],g,⟨rfl,by simp [dO]⟩,rfl,by intro e he;simp at he,.nil,List.nodup_nil⟩
 refine wpAny_pyIter_dict (beq_eq_false_iff_ne.mpr na) hD ?_
 have hk:(s.heap.push {cls:=.type "dict_keyiterator",data:=.fields #[.ref a,.int 0 0,.int 0 0,.int n 0]}).IsKeyIter s.heap.objs.size a 0 0 n:=⟨_,Heap.get?_push_size _ rfl,rfl,rfl⟩
 have W:=Walks.dictKeys (knd:=PySem.strKind prog w) (prog:=prog) (w:=w) hA s.heap.objs.size a ne [] n
 refine hQ s.heap.objs.size _ s.toks (a8 _) (aU _) (Nat.le_refl _) ⟨_,_,Heap.get?_push_size _ rfl,rfl,by decide⟩ (fun {Q' E'} hn=> ?_) (fun {Q' E' s'} e hn=> ?_)
 ·exact W.done _ _ _ ⟨hk,hD.at' fun o e=>a8 _ _ _ e⟩ fun h' tk k=>hn h' tk fun b o nb e=>k b o (by simpa using nb) e
 ·refine wpAny_pyIter_keyiter (it:=s.heap.objs.size) (d:=a) (i:=0) (n:=0) (ep:=n) ?_ hn
  exact ⟨_,by rw [e];exact Heap.get?_push_size _ rfl,rfl,rfl⟩
end
section
variable (prog:Program) (w:World) (h₀:Heap)
theorem op4:Op4 prog w h₀ where
 iter:=by
  intro c cs hc A s P Q E u hA _ inh t hQ
  exact C9 hc hA inh t hQ
 iterD:=by
  intro A s Q E a n hA _ na g hQ
  exact yS hA na g hQ
end
end Mine
end
section
open PySem PySem.W PySem.Calls PyProof.Rows PySem.SeqAt
namespace Mine
section
variable {prog:Program} {w:World} {A:Around} {E:Value→Shared→Prop} {s:Shared} {P:Fz} {Q:Value→Shared→Prop} {W:Params}
theorem EqAt.of_rc {y x:Value} (hy:∀ b t,y≠.float b t) (h:RcAt A s y x true):EqAt A s y x true:=fun prog w E Q hq=>by
 unfold eqBool
 refine wpAny_holding ?_
 refine wpAny_ite_split (fun hab=> ?_) (fun _=> ?_)
 ·exact wpAny_bind (wpAny_rule (wpAny_pure hq))
 ·dsimp only
  split
  ·rename_i e
   exact absurd (congrArg Prod.fst e) (hy _ _)
  ·exact wpAny_bind (h prog w E _ (wpAny_truthy_bool hq))
theorem qT {f:C→C→Bool}:∀ {l m:List C},ceqs f l m=true→l.length=m.length
 | [],[],_=>rfl
 |a::l,b::m,h=>congrArg Nat.succ (qT (Bool.and_eq_true_iff.mp h).2)
 | [],_::_,h=>Bool.noConfusion h
 |_::_,[],h=>Bool.noConfusion h
inductive TwoC (f:C→C→Bool) (W:Params) (P:Fz) (u v:Value):Prop
 |mk (a b:C) (e:f a b=true) (x:CR W P a u) (y:CR W P b v)
theorem qU {f:C→C→Bool}:∀ {l m:List C},ceqs f l m=true→∀ {us vs:List Value},CRs W P l us→CRs W P m vs→∀ (j:Nat) (h1:j < us.length) (h2:j < vs.length),TwoC f W P us[j] vs[j]
 | [],m,h,us,vs,hu,hv,j,h1,h2=>by
  have hu:us=[]:=hu
  subst hu
  exact absurd h1 (Nat.not_lt_zero _)
 |_::_,[],h,_,_,_,_,_,_,_=>Bool.noConfusion h
 |a::l,b::m,h,_,_,hu,hv,j,h1,h2=>by
  obtain ⟨u,us,rfl,p,q⟩:=hu
  obtain ⟨v,vs,rfl,p',q'⟩:=hv
  have h:=Bool.and_eq_true_iff.mp h
  rcases j with _ |j
  ·exact ⟨a,b,h.1,p,p'⟩
  ·exact qU h.2 q q' j (Nat.lt_of_succ_lt_succ h1) (Nat.lt_of_succ_lt_succ h2)
theorem all_true {n:Nat}:(List.range n).all (fun _=>true)=true:=List.all_eq_true.mpr fun _ _=>rfl
theorem uM {a b:Nat} (e:a=b):((List.range (min a b)).all (fun _=>true) && a == b)=true:=by
 rw [all_true,e];exact beq_self_eq_true b
theorem cP {l:List C} {ws:Array Value} (h:CRs W P l ws.toList):ws.size=l.length:=Array.length_toList.symm.trans (bV h)
theorem oQ {l m:List C} {f:C→C→Bool} {us vs:Array Value} (h:ceqs f l m=true) (r1:CRs W P l us.toList) (r2:CRs W P m vs.toList) (j:Nat) (h1:j < us.size) (h2:j < vs.size):TwoC f W P us[j] vs[j]:=qU h r1 r2 j h1 h2
theorem iN {l m:List C} {f:C→C→Bool} {us vs:Array Value} (h:ceqs f l m=true) (r1:CRs W P l us.toList) (r2:CRs W P m vs.toList):us.size=vs.size:=(cP r1).trans ((qT h).trans (cP r2).symm)
theorem oR {x y:Str} (h:x.cps.toList=y.cps.toList):x=y:=by
 rcases x with ⟨⟨x⟩⟩
 rcases y with ⟨⟨y⟩⟩
 exact congrArg (fun l=>Str.mk ⟨l⟩) h
theorem uN {x y:Array UInt8} (h:x.toList.map UInt8.toNat=y.toList.map UInt8.toNat):x.toList=y.toList:=(List.map_inj_right fun _ _ e=>UInt8.toNat_inj.mp e).mp h
theorem eqC:∀ (n:Nat) {a b:C},ceq n a b=true→∀ {A:Around} {u v:Value},A.units+n≤9800→Inh P s.heap→CR W P a u→CR W P b v→EqAt A s u v true
 |0,_,_,h,_,_,_,_,_,_,_=>Bool.noConfusion h
 |n+1,a,b,h,A,u,v,hu,inh,ta,tb=>by
  have lt:A.units < 9900:=Nat.lt_of_le_of_lt (Nat.le_trans (Nat.le_add_right _ _) hu) (by decide)
  have up:A.in1.units+n≤9800:=Nat.le_trans (Nat.le_of_eq (Nat.succ_add_eq_add_succ A.units n)) hu
  rcases a with _ |x |x |x |x |x |x |_ |_ |_ |_ |_ |_ |_
  case none=>
   have h1:u= .none:=ta
   rw [o8 h] at tb
   have h2:v= .none:=tb
   rw [h1,h2];exact EqAt.same _
  case bool=>
   rcases b with _ |y |_ |_ |_ |_ |_ |_ |_ |_ |_ |_ |_ |_
   case bool=>
    have h1:u= .bool x:=ta
    have h2:v= .bool y:=tb
    rw [h1,h2,eq_of_beq (show (x == y)=true from h)];exact EqAt.same _
   all_goals exact Bool.noConfusion h
  case int=>
   rw [gA (nJ h)] at tb
   obtain ⟨t,rfl⟩:=ta
   obtain ⟨t',rfl⟩:=tb
   have:=(MeetsSeq.EqGives.int x x t t').at A s
   rwa [beq_self_eq_true] at this
  case str=>
   rw [gB (nJ h)] at tb
   clear h
   obtain ⟨x',t,rfl,e⟩:=ta
   obtain ⟨y',t',rfl,e'⟩:=tb
   rw [oR (e'.trans e.symm)]
   have:=(eqGives_str x' x' t t').at A s
   rwa [beq_self_eq_true] at this
  case byt=>
   rw [nG (nJ h)] at tb
   clear h
   obtain ⟨x',t,rfl,e⟩:=ta
   obtain ⟨y',t',rfl,e'⟩:=tb
   refine EqAt.of_rc (fun _ _=>Value.noConfusion) fun prog w E Q hq=>eq_bytes ?_
   rw [uN (e'.trans e.symm),beq_self_eq_true];exact hq
  case tup=>
   obtain ⟨y,hy,h⟩:=Option.any_eq_true .. |>.mp h
   rw [nI hy] at tb
   clear hy
   obtain ⟨a1,ws1,rfl,t1,r1⟩:=sqA inh ta
   obtain ⟨a2,ws2,rfl,t2,r2⟩:=sqA inh tb
   have:=RcAt.tuples (A:=A) (s:=s) (e:=fun _=>true) t1 t2 lt fun j h1 h2=>let ⟨p,q,e,r,r'⟩:=oQ h r1 r2 j h1 h2;eqC n e up inh r r'
   rw [uM (iN h r1 r2)] at this
   exact EqAt.of_rc (fun _ _=>Value.noConfusion) this
  case lst=>
   obtain ⟨y,hy,h⟩:=Option.any_eq_true .. |>.mp h
   rw [nH hy] at tb
   clear hy
   obtain ⟨a1,ws1,rfl,t1,r1⟩:=sqA inh ta
   obtain ⟨a2,ws2,rfl,t2,r2⟩:=sqA inh tb
   have:=RcAt.lists (A:=A) (s:=s) (e:=fun _=>true) t1 t2 (iN h r1 r2) lt fun j h1 h2=>let ⟨p,q,e,r,r'⟩:=oQ h r1 r2 j h1 h2;eqC n e up inh r r'
   rw [all_true] at this
   exact EqAt.of_rc (fun _ _=>Value.noConfusion) this
  all_goals exact Bool.noConfusion h
theorem yT (h:A.units≤9000):A.in1.units+50≤9800:=Nat.le_trans (Nat.add_le_add_right (Nat.succ_le_succ h) 50) (by decide)
theorem yU {n:Nat} {l m:List C} {ws1 ws2:Array Value} (h:ceqs (ceq n) l m=true) (inh:Inh P s.heap) (r1:CRs W P l ws1.toList) (r2:CRs W P m ws2.toList) (hu:A.in1.units+n≤9800):
  ∀ j (h1:j < ws1.size) (h2:j < ws2.size),EqAt A.in1 s ws1[j] ws2[j] true:=fun j h1 h2=>let ⟨p,q,e,r,r'⟩:=oQ h r1 r2 j h1 h2;eqC n e hu inh r r'
theorem E5 {α β:Type} [BEq α] [LawfulBEq α] [BEq β] [LawfulBEq β] {a b:α} {c d:β} (h:a=b↔c=d):(a == b)=(c == d):=by
 rw [Bool.eq_iff_iff,beq_iff_eq,beq_iff_eq];exact h
theorem oS {x y:Str}:(x == y)=(x.cps.toList == y.cps.toList):=E5 ⟨fun e=>e ▸ rfl,oR⟩
theorem uO {x y:Array UInt8}:(x.toList == y.toList)=(x.toList.map UInt8.toNat == y.toList.map UInt8.toNat):=E5 ⟨fun e=>e ▸ rfl,uN⟩
noncomputable abbrev sK (prog:Program) (w:World) (A:Around) (Q:Value→Shared→Prop) (E:Value→Shared→Prop) (s:Shared) (u v:Value) (t:Bool):Prop:=
 (Q (.bool t) s→wpAny (model prog w) A (compareOp .Eq u v) Q E s)∧(Q (.bool (!t)) s→wpAny (model prog w) A (compareOp .NotEq u v) Q E s)
theorem DA {x y:Int} {u v:Value} (ta:∃ t,u= .int x t) (tb:∃ t,v= .int y t):sK prog w A Q E s u v (x == y):=by
 obtain ⟨t,rfl⟩:=ta
 obtain ⟨t',rfl⟩:=tb
 exact ⟨fun q=>PyProof.Rows.eq_int q,fun q=>PyProof.Rows.ne_int q⟩
theorem DB {x y:List Nat} {u v:Value} (ta:StrAt u x) (tb:StrAt v y):sK prog w A Q E s u v (x == y):=by
 obtain ⟨x',t,rfl,rfl⟩:=ta
 obtain ⟨y',t',rfl,rfl⟩:=tb
 rw [← oS]
 exact ⟨fun q=>PyProof.Rows.eq_str q,fun q=>PyProof.Rows.ne_str q⟩
theorem DD {x y:List Nat} {u v:Value} (ta:BytAt u x) (tb:BytAt v y):sK prog w A Q E s u v (x == y):=by
 obtain ⟨x',t,rfl,rfl⟩:=ta
 obtain ⟨y',t',rfl,rfl⟩:=tb
 rw [← uO]
 exact ⟨fun q=>eq_bytes q,fun q=>ne_bytes q⟩
theorem DE {x y:List C} {u v:Value} (hc:ceqs (ceq 50) x y=true) (hu:A.units≤9000) (inh:Inh P s.heap) (ta:CR W P (.tup x) u) (tb:CR W P (.tup y) v):sK prog w A Q E s u v true:=by
 obtain ⟨a1,ws1,rfl,t1,r1⟩:=sqA inh ta
 obtain ⟨a2,ws2,rfl,t2,r2⟩:=sqA inh tb
 have lt:A.units < 9900:=Nat.lt_of_le_of_lt hu (by decide)
 have hh:=yU (A:=A) hc inh r1 r2 (yT hu)
 have e:=uM (iN hc r1 r2)
 have:=RcNeAt.tuples (A:=A) (s:=s) (e:=fun _=>true) t1 t2 lt hh prog w E Q
 rw [e] at this
 exact ⟨fun q=>eq_tupleAt (e:=fun _=>true) t1 t2 lt hh (e.symm ▸ q),this⟩
theorem DF {x y:List C} {u v:Value} (hc:ceqs (ceq 50) x y=true) (hu:A.units≤9000) (inh:Inh P s.heap) (ta:TopR W P s.heap (.lst x) u) (tb:TopR W P s.heap (.lst y) v):sK prog w A Q E s u v true:=by
 obtain ⟨a1,ws1,rfl,t1,r1⟩:=sqH ta
 obtain ⟨a2,ws2,rfl,t2,r2⟩:=sqH tb
 have lt:A.units < 9900:=Nat.lt_of_le_of_lt hu (by decide)
 have hh:=yU (A:=A) hc inh r1 r2 (yT hu)
 have e:=iN hc r1 r2
 have:=RcNeAt.lists (A:=A) (s:=s) (e:=fun _=>true) t1 t2 e lt hh prog w E Q
 rw [all_true] at this
 exact ⟨fun q=>eq_listAt (e:=fun _=>true) t1 t2 e lt hh (all_true.symm ▸ q),this⟩
theorem DG {x y:List C} {u v:Value} (hne:Nat.beq x.length y.length=false) (hu:A.units≤9000) (ta:TopR W P s.heap (.lst x) u) (tb:TopR W P s.heap (.lst y) v):sK prog w A Q E s u v false:=by
 obtain ⟨a1,ws1,rfl,t1,r1⟩:=sqH ta
 obtain ⟨a2,ws2,rfl,t2,r2⟩:=sqH tb
 have lt:A.units < 9900:=Nat.lt_of_le_of_lt hu (by decide)
 have hb:(ws1.size !=ws2.size)=true:=bne_iff_ne.mpr fun e=>by
  rw [← cP r1,← cP r2,e,Nat.beq_refl] at hne;exact Bool.noConfusion hne
 exact ⟨fun q=>eq_list_lengthsAt t1 t2 hb lt q,RcNeAt.lists_lengths t1 t2 hb lt prog w E Q⟩
theorem yV {α:Type} {b:Bool} {x y z:Option α} (h:cond b x y=z):(b=true∧x=z)∨(b=false∧y=z):=by
 rcases b with _ |_
 ·exact .inr ⟨rfl,h⟩
 ·exact .inl ⟨rfl,h⟩
theorem E6 {a b:C} {t:Bool} (h:wR a b=some t) {u v:Value} (hu:A.units≤9000) (inh:Inh P s.heap) (ta:TopR w.params P s.heap a u) (tb:TopR w.params P s.heap b v):sK prog w A Q E s u v t:=by
 rcases a with _ |x |x |x |x |x |x |_ |_ |_ |_ |_ |_ |_
 case int=>obtain ⟨y,rfl,e⟩:=bI h;exact Option.some.inj e ▸ DA ta tb
 case str=>obtain ⟨y,rfl,e⟩:=bS h;exact Option.some.inj e ▸ DB ta tb
 case byt=>obtain ⟨y,rfl,e⟩:=bB h;exact Option.some.inj e ▸ DD ta tb
 case tup=>
  obtain ⟨y,rfl,e⟩:=bT h
  rcases yV e with ⟨hc,e⟩ | ⟨_,e⟩
  ·exact Option.some.inj e ▸ DE hc hu inh ta tb
  ·exact nn e
 case lst=>
  obtain ⟨y,rfl,e⟩:=bL h
  rcases yV e with ⟨hc,e⟩ | ⟨_,e⟩
  ·exact Option.some.inj e ▸ DF hc hu inh ta tb
  ·rcases yV e with ⟨_,e⟩ | ⟨hc,e⟩
   ·exact nn e
   ·exact Option.some.inj e ▸ DG hc hu ta tb
 all_goals exact nn h
end
section
variable {prog:Program} {w:World} {A:Around} {E:Value→Shared→Prop} {s:Shared} {P:Fz} {Q:Value→Shared→Prop} {W:Params}
theorem HA {x y:Str} (h:x.cps.toList=y.cps.toList):x=y:=oR h
theorem qV {x y:Str} {t:Tok}:Value.isStrOf x (.str y t)=(y.cps.toList == x.cps.toList):=oS
theorem E7:∀ {l:List (List Nat × C)} {es:List DictEntry},CRd w.params P l es→∀ e∈es,∃ y,(PySem.strKind prog w).is y e.key=true∧e.hash=(PySem.strKind prog w).hash y
 | [],es,r,e,he=>by
  have r:es=[]:=r
  subst r
  exact (List.not_mem_nil he).elim
 |p::l,es,r,e,he=>by
  obtain ⟨x,t,v,rest,rfl,e2,e3,e4⟩:=r
  rcases List.mem_cons.mp he with h |he
  ·rw [h];exact ⟨x,beq_self_eq_true x,rfl⟩
  ·exact E7 e4 e he
theorem yW {l:List (List Nat × C)} {es:Array DictEntry} {n:Nat} {a:Addr} (g:s.heap.get? a=some (dO es n)) (r:CRd w.params P l es.toList):s.heap.MapOf (PySem.strKind prog w) a (findBy (PySem.strKind prog w).is es):=
 ⟨_,es,n,g,⟨rfl,rfl,rfl⟩,rfl,fun e he=>E7 r e (Array.mem_toList_iff.mpr he),fun _=>rfl⟩
structure FR (W:Params) (P:Fz) (o:Option C) (r:Option Value):Prop where
 same:r.isSome=o.isSome
 val:∀ {c},o=some c→∃ v,r=some v∧CR W P c v
theorem FR.hit {c:C} {v:Value} (x:CR W P c v):FR W P (some c) (some v):=⟨rfl,fun h=>⟨v,rfl,Option.some.inj h ▸ x⟩⟩
theorem FR.miss:FR W P none none:=⟨rfl,fun h=>nn h⟩
theorem FR.gone {r:Option Value} (x:FR W P none r):r=none:=Option.isSome_eq_false_iff.mp x.same |> Option.isNone_iff_eq_none.mp
theorem uP (k:Str):∀ {l:List (List Nat × C)} {es:List DictEntry},CRd W P l es→FR W P (lkS l k.cps.toList) ((es.find? fun e=>Value.isStrOf k e.key).map (·.val))
 | [],es,r=>by
  have r:es=[]:=r
  subst r
  exact .miss
 |p::l,es,r=>by
  obtain ⟨x,t,v,rest,rfl,e2,e3,e4⟩:=r
  have q:Value.isStrOf k (.str x t)=(p.1 == k.cps.toList):=e2 ▸ qV
  refine (?_:FR W P (cond (p.1 == k.cps.toList) (some p.2) (lkS l k.cps.toList)) _)
  rcases h:p.1 == k.cps.toList with _ |_ <;> rw [h] at q
  ·rw [List.find?_cons_of_neg (p:=fun e:DictEntry=>Value.isStrOf k e.key) (a:=⟨_,.str x t,v⟩) (ne_true_of_eq_false q)];exact uP k e4
  ·rw [List.find?_cons_of_pos (p:=fun e:DictEntry=>Value.isStrOf k e.key) (a:=⟨_,.str x t,v⟩) q];exact .hit e3
theorem jM {K:Type} {f:K→Value→Bool} {es:Array DictEntry} {k:K}:findBy f es k=(es.toList.find? fun e=>f k e.key).map (·.val):=congrArg (Option.map _) Array.find?_toList.symm
theorem yX {l:List (List Nat × C)} {es:Array DictEntry} (r:CRd W P l es.toList) (k:Str):FR W P (lkS l k.cps.toList) (findBy Value.isStrOf es k):=jM ▸ uP k r
theorem g6 {k:Int} (h0:0≤k) (h1:k < 1000000):hashInt k=k:=by
 unfold hashInt rawHash
 have e:(k.natAbs:Int) % ((2 ^ 61 - 1:Nat):Int)=k:=by
  rw [Int.emod_eq_of_lt (by lia) (by lia)];lia
 simp only [e,if_neg (Int.not_lt.mpr h0)]
 have n1:(k == -1)=false:=beq_eq_false_iff_ne.mpr (by lia)
 rw [n1]
 simp only [Bool.false_eq_true,if_false]
 rw [n1];rfl
theorem E8:∀ {l:List (Int × C)} {es:List DictEntry},CRe w.params P l es→∀ e∈es,∃ y,(PySem.intKind prog w).is y e.key=true∧e.hash=(PySem.intKind prog w).hash y
 | [],es,r,e,he=>by
  have r:es=[]:=r
  subst r
  exact (List.not_mem_nil he).elim
 |p::l,es,r,e,he=>by
  obtain ⟨t,v,rest,rfl,h0,h1,e3,e4⟩:=r
  rcases List.mem_cons.mp he with h |he
  ·rw [h];exact ⟨p.1,beq_self_eq_true p.1,(g6 h0 h1).symm⟩
  ·exact E8 e4 e he
theorem K0 {l:List (Int × C)} {es:Array DictEntry} {n:Nat} {a:Addr} (g:s.heap.get? a=some (dO es n)) (r:CRe w.params P l es.toList):s.heap.MapOf (PySem.intKind prog w) a (findBy (PySem.intKind prog w).is es):=
 ⟨_,es,n,g,⟨rfl,rfl,rfl⟩,rfl,fun e he=>E8 r e (Array.mem_toList_iff.mpr he),fun _=>rfl⟩
theorem uQ (k:Int):∀ {l:List (Int × C)} {es:List DictEntry},CRe W P l es→FR W P (lkI l k) ((es.find? fun e=>Value.isInt k e.key).map (·.val))
 | [],es,r=>by
  have r:es=[]:=r
  subst r
  exact .miss
 |p::l,es,r=>by
  obtain ⟨t,v,rest,rfl,h0,h1,e3,e4⟩:=r
  have q:Value.isInt k (.int p.1 t)=(p.1 == k):=rfl
  refine (?_:FR W P (cond (p.1 == k) (some p.2) (lkI l k)) _)
  rcases h:p.1 == k with _ |_ <;> rw [h] at q
  ·rw [List.find?_cons_of_neg (p:=fun e:DictEntry=>Value.isInt k e.key) (a:=⟨_,.int p.1 t,v⟩) (ne_true_of_eq_false q)];exact uQ k e4
  ·rw [List.find?_cons_of_pos (p:=fun e:DictEntry=>Value.isInt k e.key) (a:=⟨_,.int p.1 t,v⟩) q];exact .hit e3
theorem E9 {l:List (Int × C)} {es:Array DictEntry} (r:CRe W P l es.toList) (k:Int):FR W P (lkI l k) (findBy Value.isInt es k):=jM ▸ uQ k r
theorem uR:∀ {ns:List Int} {vs:List Value},CRs W P (ns.map C.int) vs→IntsAre vs ns
 | [],vs,r=>by
  have r:vs=[]:=r
  subst r
  exact .nil
 |n::ns,vs,r=>by
  obtain ⟨u,rest,rfl,⟨t,rfl⟩,r⟩:=r
  exact .cons _ t (uR r)
theorem lL {l:List C} {ns:List Int} {vs:List Value} (h:eF l=some ns) (r:CRs W P l vs):IntsAre vs ns:=uR (fT gA h ▸ r)
theorem uS:∀ {ns:List (List Nat)} {vs:List Value},CRs W P (ns.map C.str) vs→StrsAre vs (ns.map fun l=>⟨l.toArray⟩)
 | [],vs,r=>by
  have r:vs=[]:=r
  subst r
  exact .nil
 |n::ns,vs,r=>by
  obtain ⟨u,rest,rfl,⟨x,t,rfl,rfl⟩,r⟩:=r
  exact .cons x t (uS r)
theorem lM {l:List C} {ns:List (List Nat)} {vs:List Value} (h:eY l=some ns) (r:CRs W P l vs):StrsAre vs (ns.map fun l=>⟨l.toArray⟩):=uS (fT gB h ▸ r)
theorem qW {k:Str}:∀ {ns:List (List Nat)},(ns.map fun l=>(⟨l.toArray⟩:Str)).any (· == k)=ns.contains k.cps.toList
 | []=>rfl
 |a::l=>by
  rw [List.map_cons,List.any_cons,qW,oS,List.contains_cons]
  exact congrArg (· || _) Bool.beq_comm
theorem f7 {b:Array UInt8} {t u:Tok} {i:Int} (h0:0≤i) (h1:i < 256):Gives (Builtin.«bytes.__contains__» ⟨[.bytes b t,.int i u],[]⟩) (.val (.bool (b.contains i.toNat.toUInt8))):=by
 refine .of_wp fun M A E s Q hq=> ?_
 show wpAny M A (Builtin.Bytes.containsIn "bytes.__contains__" (.bytes b t) (.int i u) >>=fun r=>_) _ E s
 refine wpAny_bind ?_
 unfold Builtin.Bytes.containsIn
 have e:(asIndex (.int i u)).attempt=pure (Except.ok i):=rfl
 rw [e]
 refine wpAny_bind (wpAny_pure ?_)
 rw [KBy.buffer_eq]
 refine wpAny_bind (wpAny_pure ?_)
 dsimp only
 rw [if_neg (by simp;lia)]
 exact wpAny_pure (wpAny_pure ⟨_,rfl,hq⟩)
theorem iO {b:Array UInt8} {n:Nat} (h:n < 256):b.contains n.toUInt8=(b.toList.map UInt8.toNat).contains n:=by
 rw [Bool.eq_iff_iff,Array.contains_iff_mem,List.contains_iff_mem,List.mem_map]
 have e:n.toUInt8.toNat=n:=Nat.mod_eq_of_lt h
 refine ⟨fun h=>⟨n.toUInt8,Array.mem_toList_iff.mpr h,e⟩,fun ⟨c,hc,q⟩=> ?_⟩
 rw [show n.toUInt8=c from UInt8.toNat_inj.mp (e.trans q.symm)]
 exact Array.mem_toList_iff.mp hc
noncomputable abbrev sL (prog:Program) (w:World) (A:Around) (Q:Value→Shared→Prop) (E:Value→Shared→Prop) (s:Shared) (u v:Value) (t:Bool):Prop:=
 ((∀ tk,Q (.bool t) {s with toks:=tk})→wpAny (model prog w) A (compareOp .In u v) Q E s)∧((∀ tk,Q (.bool (!t)) {s with toks:=tk})→wpAny (model prog w) A (compareOp .NotIn u v) Q E s)
theorem DH {i:Int} {l:List Nat} {u v:Value} (ta:∃ t,u= .int i t) (tb:BytAt v l) (hi:0≤i∧i < 256):sL prog w A Q E s u v (l.contains i.toNat):=by
 obtain ⟨t,rfl⟩:=ta
 obtain ⟨b,t',rfl,rfl⟩:=tb
 rw [← iO (b:=b) ((Int.toNat_lt hi.1).mpr hi.2)]
 exact ⟨fun q=>in_gives (typeIs_bytes s b t') FB.slot_bytes_contains FB.entry_bytes_contains (FB.args_bytes_contains_2 _ _) (f7 hi.1 hi.2) (q s.toks),fun q=>notIn_gives (typeIs_bytes s b t') FB.slot_bytes_contains FB.entry_bytes_contains (FB.args_bytes_contains_2 _ _) (f7 hi.1 hi.2) (q s.toks)⟩
theorem yY {i:Int} {l:List C} {ns:List Int} (hn:eF l=some ns) {u v:Value} (inh:Inh P s.heap) (ta:∃ t,u= .int i t) (tb:CR W P (.tup l) v):sL prog w A Q E s u v (ns.contains i):=by
 obtain ⟨t,rfl⟩:=ta
 obtain ⟨a2,ws2,rfl,t2,r2⟩:=sqA inh tb
 have I:=lL hn r2
 have hall:∀ y,y∈ws2→EqAt A.in1 s y (.int i t) (isInt i y):=fun y hy=>(eq_isInt i t I y (Array.mem_toList_iff.mpr hy)).at _ _
 have e:ws2.any (isInt i)=ns.contains i:=by
  rw [← Array.any_toList,any_isInt i I,List.contains_eq_any_beq]
  exact congrArg (List.any ns) (funext fun x=>Bool.beq_comm)
 rw [← e]
 exact ⟨fun q=>in_tupleAt (isInt i) t2 hall (q s.toks),fun q=>notIn_tupleAt (isInt i) t2 hall (q s.toks)⟩
theorem uT {x:Str} {l:List C} {ns:List (List Nat)} (hn:eY l=some ns) {ws:Array Value} (r:CRs W P l ws.toList):ws.any (isStrOf x)=ns.contains x.cps.toList∧∀ t y,y∈ws→EqAt A.in1 s y (.str x t) (isStrOf x y):=
 ⟨by rw [← Array.any_toList,any_isStrOf x (lM hn r),qW],fun t y hy=>(eq_isStrOf x t (lM hn r) y (Array.mem_toList_iff.mpr hy)).at _ _⟩
theorem DI {i:List Nat} {l:List C} {ns:List (List Nat)} (hn:eY l=some ns) {u v:Value} (inh:Inh P s.heap) (ta:StrAt u i) (tb:CR W P (.tup l) v):sL prog w A Q E s u v (ns.contains i):=by
 obtain ⟨x,t,rfl,rfl⟩:=ta
 obtain ⟨a2,ws2,rfl,t2,r2⟩:=sqA inh tb
 have I:=uT (A:=A) (s:=s) (x:=x) hn r2
 rw [← I.1]
 exact ⟨fun q=>in_tupleAt (isStrOf x) t2 (I.2 t) (q s.toks),fun q=>notIn_tupleAt (isStrOf x) t2 (I.2 t) (q s.toks)⟩
theorem DJ {i:List Nat} {l:List C} {ns:List (List Nat)} (hn:eY l=some ns) {u v:Value} (ta:StrAt u i) (tb:TopR W P s.heap (.lst l) v):sL prog w A Q E s u v (ns.contains i):=by
 obtain ⟨x,t,rfl,rfl⟩:=ta
 obtain ⟨a2,ws2,rfl,t2,r2⟩:=sqH tb
 have I:=uT (A:=A) (s:=s) (x:=x) hn r2
 rw [← I.1]
 exact ⟨fun q=>in_listAt (isStrOf x) t2 (I.2 t) (q s.toks),fun q=>notIn_listAt (isStrOf x) t2 (I.2 t) (q s.toks)⟩
theorem HB {i:Int} {l:List (Int × C)} {u v:Value} (inh:Inh P s.heap) (ta:∃ t,u= .int i t) (tb:CR w.params P (.dci l) v):sL prog w A Q E s u v (lkI l i).isSome:=by
 obtain ⟨t,rfl⟩:=ta
 obtain ⟨a2,es,n2,rfl,p2,ne,r2⟩:=tb
 have hm:=K0 (prog:=prog) (w:=w) (s:=s) (inh _ _ p2) r2
 rw [← (E9 r2 i).same]
 exact ⟨fun q=>wpAny_in_of (knd:=PySem.intKind prog w) (k:=i) (beq_self_eq_true i) (beq_eq_false_iff_ne.mpr ne) hm (q _),fun q=>wpAny_notIn_of (knd:=PySem.intKind prog w) (k:=i) (beq_self_eq_true i) (beq_eq_false_iff_ne.mpr ne) hm (q _)⟩
theorem HC {i:List Nat} {l:List (List Nat × C)} {u v:Value} (ta:StrAt u i) (tb:TopR w.params P s.heap (.dcs l) v):sL prog w A Q E s u v (lkS l i).isSome:=by
 obtain ⟨x,t,rfl,rfl⟩:=ta
 obtain ⟨a2,es,n2,rfl,g2,ne,r2⟩:=tb
 have hm:=yW (prog:=prog) (w:=w) (s:=s) g2 r2
 rw [← (yX r2 x).same]
 exact ⟨fun q=>wpAny_in_of (knd:=PySem.strKind prog w) (k:=x) (beq_self_eq_true x) (beq_eq_false_iff_ne.mpr ne) hm (q _),fun q=>wpAny_notIn_of (knd:=PySem.strKind prog w) (k:=x) (beq_self_eq_true x) (beq_eq_false_iff_ne.mpr ne) hm (q _)⟩
theorem FA {a b:C} {t:Bool} (h:BI a b=some t) {u v:Value} (inh:Inh P s.heap) (ta:TopR w.params P s.heap a u) (tb:TopR w.params P s.heap b v):sL prog w A Q E s u v t:=by
 rcases b with _ |x |x |x |x |x |x |_ |_ |_ |_ |_ |_ |_
 case byt=>obtain ⟨i,rfl,e⟩:=bI h;obtain ⟨hi,e⟩:=ifS e;exact e ▸ DH ta tb hi
 case tup=>
  rcases a with _ |_ |i |i |_ |_ |_ |_ |_ |_ |_ |_ |_ |_
  case int=>obtain ⟨ns,hn,e⟩:=bM (show (eF x).bind _=some t from h);exact Option.some.inj e ▸ yY hn inh ta tb
  case str=>obtain ⟨ns,hn,e⟩:=bM (show (eY x).bind _=some t from h);exact Option.some.inj e ▸ DI hn inh ta tb
  all_goals exact nn h
 case lst=>obtain ⟨i,rfl,e⟩:=bS h;obtain ⟨ns,hn,e⟩:=bM e;exact Option.some.inj e ▸ DJ hn ta tb
 case dci=>obtain ⟨i,rfl,e⟩:=bI h;exact Option.some.inj e ▸ HB inh ta tb
 case dcs=>obtain ⟨i,rfl,e⟩:=bS h;exact Option.some.inj e ▸ HC ta tb
 all_goals exact nn h
end
section
variable {prog:Program} {w:World} {A:Around} {E:Value→Shared→Prop} {s:Shared} {P:Fz} {Q:Value→Shared→Prop} {W:Params}
theorem yZ {i:Int} {n j:Nat} (h:ix? i n=some j):seqIndex? i n=some j∧j < n:=by
 unfold ix? at h
 unfold seqIndex?
 by_cases h0:0≤i
 ·rw [if_pos h0] at h
  obtain ⟨h1,e⟩:=ifS h
  rw [if_neg (Int.not_lt.mpr h0),← e]
  exact ⟨if_pos (by rw [Bool.and_eq_true,decide_eq_true_eq,decide_eq_true_eq];exact ⟨h0,h1⟩),(Int.toNat_lt h0).mpr h1⟩
 ·rw [if_neg h0] at h
  obtain ⟨h1,e⟩:=ifS h
  have h2:i+n < n:=by lia
  rw [if_pos (Int.not_le.mp h0),← e]
  exact ⟨if_pos (by rw [Bool.and_eq_true,decide_eq_true_eq,decide_eq_true_eq];exact ⟨h1,h2⟩),(Int.toNat_lt h1).mpr h2⟩
theorem lN {u v:Value} {T id:String} (hT:s.TypeIs u T) (hl:typeLookup (.type T) "__getitem__"=pure (some (.builtin id))) (hg:wpAny (model prog w) A (getItem u v) Q E s):
  wpAny (model prog w) A (do let p ← getitemInPython u;match p with
   |true=>runValue (.builtin "lifetime.subscript" ⟨[u,v],[]⟩)
   |false=>operate [u,v] (getItem u v)) Q E s:=by
 rw [getitemInPython_of_ne hT.not_modules]
 refine wpAny_bind (wpAny_bind (wpAny_specialOf hT hl ?_))
 exact wpAny_pure (wpAny_operating hg)
theorem sM {u iv:Value} {T id:String} (hT:s.TypeIs u T) (hl:typeLookup (.type T) "__getitem__"=pure (some (.builtin id))) (hg:wpAny (model prog w) A (getItem u iv) Q E s):
  wpAny (model prog w) A (do let p ← getitemInPython u;operate [iv,u] (getItem u iv)) Q E s:=by
 rw [getitemInPython_of_ne hT.not_modules]
 refine wpAny_bind (wpAny_bind (wpAny_specialOf hT hl ?_))
 exact wpAny_pure (wpAny_operating hg)
theorem okL_le {α:Type} {l:List α} (h:okL l=true):l.length≤1000000:=Nat.le_of_ble_eq_true h
theorem y0 {i:Int} {n j:Nat} (h:ix? i n=some j) (hn:n≤1000000): -1000000≤i∧i < 1000000:=by
 unfold ix? at h
 by_cases h0:0≤i
 ·rw [if_pos h0] at h
  have:=(ifS h).1
  lia
 ·rw [if_neg h0] at h
  have:=(ifS h).1
  lia
inductive AtI {α:Type} (l:List α) (i:Int) (x:α):Prop
 |mk (j:Nat) (hj:ix? i l.length=some j) (e:seqIndex? i l.length=some j) (lt:j < l.length) (hx:l[j]? =some x) (le:l.length≤1000000) (lo: -1000000≤i) (hi:i < 1000000)
theorem sO {α:Type} {l:List α} {i:Int} {x:α} (h:at? l i=some x):AtI l i x:=by
 obtain ⟨hl,h⟩:=ifO h
 obtain ⟨j,hj,hx⟩:=bM h
 have le:=okL_le hl
 exact ⟨j,hj,(yZ hj).1,(yZ hj).2,hx,le,(y0 hj le).1,(y0 hj le).2⟩
theorem sP {W:Params} {P:Fz}:∀ {l:List C} {ws:List Value} {i:Nat} {c:C},CRs W P l ws→l[i]? =some c→∃ v,ws[i]? =some v∧CR W P c v
 | [],ws,i,c,h,e=>nn e
 |b::l,ws,i,c,h,e=>by
  obtain ⟨u,r,rfl,a,h'⟩:=h
  rcases i with _ |i
  ·exact ⟨u,rfl,Option.some.inj e ▸ a⟩
  ·exact sP (l:=l) (ws:=r) (i:=i) h' e
theorem opC {x:C} {v:Value} (post:aS w.params P s x Q) (c:CR w.params P x v) {tk:Nat}:Q v {s with toks:=tk}:=post v s.heap tk (fun _ _ e=>e) (Nat.le_refl _) (b9 (fun a o e=>.inl e) _ _ c)
noncomputable abbrev mZ (prog:Program) (w:World) (A:Around) (Q:Value→Shared→Prop) (E:Value→Shared→Prop) (s:Shared) (u v:Value):Prop:=
  wpAny (model prog w) A (do let p ← getitemInPython u;match p with
   |true=>runValue (.builtin "lifetime.subscript" ⟨[u,v],[]⟩)
   |false=>operate [u,v] (getItem u v)) Q E s
theorem DK {l:List Nat} {i:Int} {n:Nat} (h:at? l i=some n) {u v:Value} (ta:BytAt u l) (tb:∃ t,v= .int i t) (post:aS w.params P s (.int n) Q):mZ prog w A Q E s u v:=by
 obtain ⟨b,t,rfl,rfl⟩:=ta
 obtain ⟨t',rfl⟩:=tb
 obtain ⟨j,hj,e,lt,hx,le,lo,hi⟩:=sO h
 clear hj h
 have hlen:(b.toList.map UInt8.toNat).length=b.size:=(List.length_map _).trans Array.length_toList
 rw [hlen] at lt e
 have hn:b[j].toNat=n:=by
  rw [List.getElem?_map,Array.getElem?_toList,Array.getElem?_eq_getElem lt] at hx
  exact Option.some.inj hx
 refine lN (typeIs_bytes s b t) FB.slot_bytes_getitem.lookup ?_
 refine getItem_gives (typeIs_bytes s _ t) (by decide) FB.slot_bytes_getitem FB.entry_bytes_getitem (FB.args_bytes_getitem_2 _ _) (gives_bytes_getitem b i t t' b[j] ?_ ?_) (opI (hn ▸ post) _ _)
 ·simp only [Builtin.Bytes.fitsIndex,Bool.and_eq_true,decide_eq_true_eq];lia
 ·rw [e];exact Array.getElem?_eq_getElem lt
theorem DL {l:List C} {i:Int} {x:C} (h:at? l i=some x) {u v:Value} (inh:Inh P s.heap) (ta:CR w.params P (.tup l) u) (tb:∃ t,v= .int i t) (post:aS w.params P s x Q):mZ prog w A Q E s u v:=by
 obtain ⟨a,ws,rfl,t,r⟩:=sqA inh ta
 obtain ⟨t',rfl⟩:=tb
 obtain ⟨j,hj,e,lt,hx,le,lo,hi⟩:=sO h
 clear hj h ta
 obtain ⟨y,hy,cr⟩:=sP r hx
 rw [← cP r] at e
 exact lN (Heap.IsTuple.typeIs t) PyProof.Rows.slot_tuple_getitem.lookup (PyProof.Rows.getItem_tuple t (Int.le_trans (by decide) lo) (Int.lt_trans hi (by decide)) e (Array.getElem?_toList ▸ hy) (opC post cr))
theorem DM {l:List C} {i:Int} {x:C} (h:at? l i=some x) {u v:Value} (ta:TopR w.params P s.heap (.lst l) u) (tb:∃ t,v= .int i t) (post:aS w.params P s x Q):mZ prog w A Q E s u v:=by
 obtain ⟨a,ws,rfl,t,r⟩:=sqH ta
 obtain ⟨t',rfl⟩:=tb
 obtain ⟨j,hj,e,lt,hx,le,lo,hi⟩:=sO h
 clear e h ta
 obtain ⟨y,hy,cr⟩:=sP r hx
 have hy:ws[j]? =some y:=Array.getElem?_toList ▸ hy
 rw [← cP r] at hj le lt
 refine lN (Heap.IsList.typeIs t) slot_list_getitem.lookup ?_
 unfold ix? at hj
 by_cases h0:0≤i
 ·rw [if_pos h0] at hj
  obtain ⟨h1,e⟩:=ifS hj
  exact wpAny_getItem_list t h0 (Int.lt_trans hi (by decide)) (e ▸ hy) (opC post cr)
 ·rw [if_neg h0] at hj
  obtain ⟨h1,e⟩:=ifS hj
  exact wpAny_getItem_list_neg t (Int.not_le.mp h0) (by lia) (Int.le_trans (by decide) lo) (e ▸ hy) (opC post cr)
theorem DO {l:List (List Nat × C)} {k:List Nat} {x:C} (h:lkS l k=some x) {u v:Value} (ta:TopR w.params P s.heap (.dcs l) u) (tb:StrAt v k) (post:aS w.params P s x Q):mZ prog w A Q E s u v:=by
 obtain ⟨y,t,rfl,rfl⟩:=tb
 obtain ⟨a2,es,n2,rfl,g2,ne,r2⟩:=ta
 have hm:=yW (prog:=prog) (w:=w) (s:=s) g2 r2
 obtain ⟨v,hv,cr⟩:=(yX r2 y).val h
 exact lN hm.typeIs slot_dict_getitem.lookup (wpAny_getItem_of (knd:=PySem.strKind prog w) (k:=y) (beq_self_eq_true y) hm hv (opC post cr))
theorem DP {l:List (Int × C)} {k:Int} {x:C} (h:lkI l k=some x) {u v:Value} (inh:Inh P s.heap) (ta:CR w.params P (.dci l) u) (tb:∃ t,v= .int k t) (post:aS w.params P s x Q):mZ prog w A Q E s u v:=by
 obtain ⟨t,rfl⟩:=tb
 obtain ⟨a2,es,n2,rfl,p2,ne,r2⟩:=ta
 have hm:=K0 (prog:=prog) (w:=w) (s:=s) (inh _ _ p2) r2
 obtain ⟨v,hv,cr⟩:=(E9 r2 k).val h
 exact lN hm.typeIs slot_dict_getitem.lookup (wpAny_getItem_of (knd:=PySem.intKind prog w) (k:=k) (beq_self_eq_true k) hm hv (opC post cr))
theorem HD {o i x:C} (h:iX o i=some x) {u v:Value} (inh:Inh P s.heap) (ta:TopR w.params P s.heap o u) (tb:CR w.params P i v) (post:aS w.params P s x Q):mZ prog w A Q E s u v:=by
 rcases o with _ |l |l |l |l |l |l |_ |_ |_ |_ |_ |_ |_
 case byt=>obtain ⟨i,rfl,e⟩:=bI h;obtain ⟨n,e,e'⟩:=bM e;exact DK e ta tb (Option.some.inj e' ▸ post)
 case tup=>obtain ⟨i,rfl,e⟩:=bI h;exact DL e inh ta tb post
 case lst=>obtain ⟨i,rfl,e⟩:=bI h;exact DM e ta tb post
 case dcs=>obtain ⟨i,rfl,e⟩:=bS h;exact DO e ta tb post
 case dci=>obtain ⟨i,rfl,e⟩:=bI h;exact DP e inh ta tb post
 all_goals exact nn h
end
section
variable {prog:Program} {w:World} {A:Around} {E:Value→Shared→Prop} {s:Shared} {P:Fz} {Q:Value→Shared→Prop} {W:Params}
inductive PartOf (lo:C) (d n k:Nat):Prop
 |none (e:lo= .none) (h:k=d)
 |int (i:Int) (e:lo= .int i) (h:k=clip n i)
theorem DQ {d n k:Nat} {c:C} (h:BK d n c=some k):PartOf c d n k:=by
 rcases c with _ |_ |i |_ |_ |_ |_ |_ |_ |_ |_ |_ |_ |_
 case none=>exact .none rfl (Option.some.inj h).symm
 case int=>exact .int i rfl (Option.some.inj h).symm
 all_goals exact nn h
noncomputable def clO (d n:Nat):Option Int→Nat
 |none=>d
 |some i=>clip n i
noncomputable abbrev loN (n:Nat):Option Int→Nat:=clO 0 n
noncomputable abbrev hiN (n:Nat):Option Int→Nat:=clO n n
theorem uU {c:C} {d n k:Nat} (h:BK d n c=some k) {u:Value} (t:CR W P c u):∃ lo,IsPart u lo∧k=clO d n lo:=by
 rcases DQ h with ⟨rfl,e⟩ | ⟨i,rfl,e⟩
 ·have t:u= .none:=t
  exact ⟨none,t ▸ .none,e⟩
 ·obtain ⟨t,rfl⟩:=t
  exact ⟨some i,.int _ t,e⟩
inductive CutAt {α:Type} (l r:List α) (a b:Value):Prop
 |mk (lo hi:Option Int) (x:IsPart a lo) (y:IsPart b hi) (e:r=(l.drop (loN l.length lo)).take (hiN l.length hi - loN l.length lo))
theorem qX {α:Type} {l:List α} {lo hi:C} {r:List α} (h:cut l lo hi=some r) {a b:Value} (ta:CR W P lo a) (tb:CR W P hi b):CutAt l r a b:=by
 obtain ⟨i,h1,h⟩:=bM h
 obtain ⟨j,h2,h⟩:=bM h
 obtain ⟨lo',x,e1⟩:=uU h1 ta
 obtain ⟨hi',y,e2⟩:=uU h2 tb
 exact ⟨lo',hi',x,y,by rw [← Option.some.inj h,e1,e2]⟩
theorem iP (n:Nat) (i:Int):max 0 (min (if i < 0 then i+(n:Int) else i) (n:Int))=((clip n i:Nat):Int):=by
 unfold clip
 by_cases h:i < 0
 ·rw [if_pos h,if_pos h,Int.min_eq_left (by lia),Int.max_comm,Int.ofNat_toNat]
 ·have h:=Int.not_lt.mp h
  rw [if_neg (Int.not_lt.mpr h),if_neg (Int.not_lt.mpr h),Int.max_eq_right (Int.le_min.mpr ⟨h,Int.natCast_nonneg n⟩),Lean.Omega.Int.ofNat_min,Int.toNat_of_nonneg h]
theorem jE (lo hi:Option Int) (n:Nat):sliceBounds lo hi none n=((loN n lo:Int),(hiN n hi:Int),1):=by
 rcases lo with _ |i <;> rcases hi with _ |j
 ·rfl
 ·exact congrArg (fun k=>((0:Int),k,(1:Int))) (iP n j)
 ·exact congrArg (fun k=>(k,(n:Int),(1:Int))) (iP n i)
 ·exact congr (congrArg (fun a b=>(a,b,(1:Int))) (iP n i)) (iP n j)
theorem uV {α:Type} (xs:Array α) (a b:Nat):(sliceRange (a:Int) (b:Int) 1).filterMap (xs[·]?)=(xs.toList.drop a).take (b - a):=by
 unfold sliceRange
 simp only [show (1:Int) > 0 by lia,if_true,Int.ediv_one,Int.one_mul]
 have e:(if (a:Int) < b then (b:Int) - a+1 - 1 else 0).toNat=b - a:=by split <;> lia
 rw [e,← pick_run]
 congr 1
theorem lO {v:Value} {lo:Option Int} {k:Option Value→Sem Value} (h:IsPart v lo)
  (hk:∀ i t,v= .int i t→∀ q:Value→Shared→Prop,q (rawInt i) s→wpAny (model prog w) A (k (some (.builtin "int.__index__"))) q E s) (q:Q (rawPart lo) s):
  wpAny (model prog w) A (if (v == .none)=true then pure .none else specialOf v "__index__" >>=k) Q E s:=by
 rcases h with _ | ⟨i,t⟩
 ·exact wpAny_of_eq (a:=Value.none) rfl q
 ·exact wpAny_ite (KBy.ite_no Bool.false_ne_true (wpAny_bind (wpAny_specialOf (T:="int") (typeIs_int _ _ _) F.slot_int_index.lookup (hk i t rfl Q q))))
theorem m0 {b:Array UInt8} {lo hi:Option Int}:KBy.picked b lo hi=((b.toList.drop (loN b.size lo)).take (hiN b.size hi - loN b.size lo)).toArray:=by
 unfold KBy.picked Builtin.Bytes.sliced
 rw [jE]
 exact congrArg List.toArray (uV b _ _)
theorem qY {b:Array UInt8} {lo hi:Option Int} (hz:b.size≤16777216):((b.toList.drop (loN b.size lo)).take (hiN b.size hi - loN b.size lo)).toArray.size≤sizeLine:=
 Nat.le_trans (List.length_take_le' _ _) (Nat.le_trans (List.length_drop .. ▸ Nat.sub_le _ _) hz)
theorem y2 {b:Array UInt8} {lo hi:Option Int} (hw:KBy.whole b lo hi=true):((b.toList.drop (loN b.size lo)).take (hiN b.size hi - loN b.size lo)).toArray=b:=by
 unfold KBy.whole at hw
 rw [jE] at hw
 simp only [Bool.and_eq_true,beq_iff_eq] at hw
 rw [show loN b.size lo=0 from Int.ofNat_inj.mp hw.1.1.1,show hiN b.size hi=b.size from Int.ofNat_inj.mp hw.1.2,List.drop_zero]
 exact congrArg List.toArray (List.take_of_length_le (Nat.le_refl _))
theorem qZ {b:Array UInt8} {t:Tok} {a:Addr} {l u:Value} {lo hi:Option Int} (hl:IsPart l lo) (hu:IsPart u hi) (hw:KBy.whole b lo hi=true):
  Meets (Builtin.«bytes.__getitem__» ⟨[.bytes b t,.ref a],[]⟩) (fun _ R s=>s.heap.IsSliceOf a l u .none∧R (.ok (.ret (.bytes b t))) s):=by
 refine .of_wp fun prog w A R s hS=> ?_
 obtain ⟨⟨o,ho,hc,hd⟩,h⟩:=hS
 have hT:s.TypeIs (.ref a) "slice":=⟨o,ho,hc⟩
 refine (?_:wpAny _ _ (Builtin.Bytes.payload (.bytes b t) >>=fun r=>_) _ _ s)
 refine wpAny_bind (wpAny_of_eq (a:=b) rfl ?_)
 refine (?_:wpAny _ _ (Builtin.Bytes.subscript? (.ref a) >>=fun r=>_) _ _ s)
 refine wpAny_bind ?_
 unfold Builtin.Bytes.subscript?
 refine wpAny_bind (wpAny_specialOf hT slice_no_index (wpAny_pure ?_))
 refine wpAny_bind (wpAny_typeOf hT ?_)
 refine (?_:wpAny _ _ (Builtin.Bytes.sliceParts (.ref a) >>=fun r=>_) _ _ s)
 refine wpAny_bind ?_
 unfold Builtin.Bytes.sliceParts
 refine wpAny_bind (wpAny_field (x:=.none) ho hd rfl ?_)
 refine wpAny_bind (lO .none (fun _ _ e=>nomatch e) ?_)
 refine wpAny_ite (KBy.ite_no (show ¬((Value.none == rawInt 0)=true) from Bool.false_ne_true) ?_)
 refine wpAny_bind (wpAny_field (x:=l) ho hd rfl ?_)
 refine wpAny_bind (lO hl (fun i t e q hq=>e ▸ wpAny_ite (KBy.ite_no Bool.false_ne_true (wpAny_bind (wpAny_of_eq rfl (wpAny_pure hq))))) ?_)
 refine wpAny_bind (wpAny_field (x:=u) ho hd rfl ?_)
 refine wpAny_bind (lO hu (fun i t e q hq=>e ▸ wpAny_ite (KBy.ite_no Bool.false_ne_true (wpAny_bind (wpAny_of_eq rfl (wpAny_pure hq))))) (wpAny_pure ?_))
 refine wpAny_bind (wpAny_of_eq (sliceIndices_raw lo hi none b.size (fun e=>nomatch e)) ?_)
 refine wpAny_ite ?_
 rw [if_pos (by unfold KBy.whole at hw;exact hw)]
 refine wpAny_bind (wpAny_typeOf (typeIs_bytes _ _ _) ?_)
 rw [if_pos (by decide)]
 exact wpAny_bind (wpAny_rule (wpAny_pure ⟨_,rfl,h⟩))
theorem q0 {b:Array UInt8} {t:Tok} {a:Addr} {l u:Value} {lo hi:Option Int} (hs:s.heap.IsSliceOf a l u .none) (hl:IsPart l lo) (hu:IsPart u hi) (hz:b.size≤16777216)
  (h:∀ t' k,Q (.bytes ((b.toList.drop (loN b.size lo)).take (hiN b.size hi - loN b.size lo)).toArray t') {s with toks:=k}):wpAny (model prog w) A (getItem (.bytes b t) (.ref a)) Q E s:=by
 rcases hw:KBy.whole b lo hi with _ |_
 ·exact getItem_meets (typeIs_bytes _ _ _) (by decide) FB.slot_bytes_getitem FB.entry_bytes_getitem (FB.args_bytes_getitem_2 _ _) (KBy.meets_slice b t _ hl hu hw) ⟨hs,m0 ▸ qY hz,m0 ▸ h _ _⟩
 ·rw [y2 hw] at h
  exact getItem_meets (typeIs_bytes _ _ _) (by decide) FB.slot_bytes_getitem FB.entry_bytes_getitem (FB.args_bytes_getitem_2 _ _) (qZ hl hu hw) ⟨hs,h _ _⟩
end
section
variable {prog:Program} {w:World} {A:Around} {E:Value→Shared→Prop} {s:Shared} {P:Fz} {Q:Value→Shared→Prop} {W:Params}
theorem q6:∀ {l:List C} {ws:List Value},CRs W P l ws→∀ n,CRs W P (l.drop n) (ws.drop n)
 |_,_,h,0=>h
 | [],ws,h,n+1=>by have h:ws=[]:=h;rw [h];exact rfl
 |c::l,_,h,n+1=>by obtain ⟨u,r,rfl,a,h⟩:=h;exact q6 h n
theorem lP:∀ {l:List C} {ws:List Value},CRs W P l ws→∀ n,CRs W P (l.take n) (ws.take n)
 |_,_,h,0=>rfl
 | [],ws,h,n+1=>by have h:ws=[]:=h;rw [h];exact rfl
 |c::l,_,h,n+1=>by obtain ⟨u,r,rfl,a,h⟩:=h;exact ⟨u,r.take n,rfl,a,lP h n⟩
theorem opK {x:C} {h1:Heap} {tk1:Nat} (post:aS w.params P s x Q) (k:Kept s.heap h1) (sz:s.heap.objs.size≤h1.objs.size):aS w.params (Mk P s.heap h1) {s with heap:=h1,toks:=tk1} x Q:=by
 intro r h' tk k' sz' c
 refine post r h' tk (fun b o e=>k' b o (k b o e)) (Nat.le_trans sz sz') (b9 ?_ x r c)
 rintro a o ((e | ⟨e,g⟩) | ⟨e,g⟩)
 ·exact .inl e
 ·exact .inr ⟨e,k' _ _ g⟩
 ·exact .inr ⟨Nat.le_trans sz e,g⟩
theorem fS {t sl:Addr} {items:Array Value} {u:Tok} (ht:IsTup s.heap t items) (hs:s.heap.IsSliceOf sl .none (.int (-1) u) .none) (h1:1≤items.size)
  (h:Q (.ref s.heap.objs.size) {s with heap:=s.heap.push {cls:=.type "tuple",data:=.seq (items.toList.take (items.size - 1)).toArray}}) (hsz:items.size≤sizeLine):wpAny (model prog w) A (getItem (.ref t) (.ref sl)) Q E s:=by
 have hdrop:sizeOk (.seq (items.toList.take (items.size - 1)).toArray):=by
  show (items.toList.take (items.size - 1)).toArray.size≤sizeLine
  rw [List.size_toArray,List.length_take,Array.length_toList]
  lia
 obtain ⟨os,hos,hcs,hds⟩:=id hs
 have hTs:s.TypeIs (.ref sl) "slice":=⟨os,hos,hcs⟩
 unfold getItem
 try with_reducible refine wpAny_holding ?_
 first |refine wpAny_bind (wpAny_pure ?_) |skip
 refine wpAny_bind (wpAny_sequenceKey ht.typeIs (by decide) ?_)
 refine wpAny_bind (wpAny_callSpecial?_slot (name:=Str.ofString "__getitem__") ht.typeIs PyProof.Rows.slot_tuple_getitem
  (wpAny_call_entry PyProof.Rows.slot_tuple_getitem ht.typeIs PyProof.Rows.entry_tuple_getitem ?_ (PyProof.Rows.args_tuple_getitem _ _)))
 show wpAny _ _ (Builtin.Tuple.tupleItemsOf (.ref t) >>=_) _ _ s
 refine wpAny_bind (tupleItemsOf_ ht ?_)
 refine wpAny_bind (wpAny_typeOf hTs ?_)
 rw [if_pos (by decide)]
 have hadj:Builtin.Slice.sliceAdjust none (some (-1)) 1 (items.size:Int)=(0,((items.size - 1:Nat):Int)):=by
  unfold Builtin.Slice.sliceAdjust
  have h1:¬((1:Int) < 0):=by lia
  have h2:((-1:Int) < 0):=by lia
  simp only [h1,h2,if_false,if_true]
  congr 1
  lia
 have hpl:Builtin.Slice.slicePlaces 0 ((items.size - 1:Nat):Int) 1=items.size - 1:=by
  unfold Builtin.Slice.slicePlaces
  have h1:(1:Int) > 0:=by lia
  simp only [h1,if_true,Int.ediv_one]
  split <;> lia
 have app:∀ {Q':Int × Int × Nat→Shared→Prop} {A':Around} {E':Value→Shared→Prop},Q' (0,1,items.size - 1) s→wpAny (model prog w) A' (Builtin.Slice.sliceApplied (.ref sl) (pure (items.size:Int))) Q' E' s:=by
  intro Q' A' E' q
  unfold Builtin.Slice.sliceApplied Builtin.Slice.sliceFields
  refine wpAny_bind (wpAny_bind (wpAny_field hos hds (x:=.none) rfl (wpAny_bind (wpAny_field hos hds (x:=.int (-1) u) rfl (wpAny_bind (wpAny_field hos hds (x:=.none) rfl (wpAny_pure ?_)))))))
  refine wpAny_bind (slicePart_none ?_)
  show wpAny _ _ (if ((1:Int) == 0)=true then _ else _) _ _ s
  rw [if_neg (by decide)]
  refine wpAny_bind (slicePart_none (wpAny_bind (slicePart_int (wpAny_bind (wpAny_pure ?_)))))
  show wpAny _ _ (match Builtin.Slice.sliceAdjust none (some (-1)) 1 (items.size:Int) with | (lo,hi)=>pure (lo,(1:Int),Builtin.Slice.slicePlaces lo hi 1)) _ _ s
  rw [hadj]
  show wpAny _ _ (pure ((0:Int),(1:Int),Builtin.Slice.slicePlaces 0 ((items.size - 1:Nat):Int) 1)) _ _ s
  rw [hpl]
  exact wpAny_pure q
 refine wpAny_bind (app ?_)
 have hno:¬(((0:Int) == 0 && (1:Int) == 1 && (items.size - 1) == items.size)=true):=by
  have:((items.size - 1) == items.size)=false:=by rw [beq_eq_false_iff_ne];lia
  rw [this];simp
 show wpAny _ _ (if ((0:Int) == 0 && (1:Int) == 1 && (items.size - 1) == items.size)=true then _ else _) _ _ s
 have hpick:((List.range (items.size - 1)).filterMap fun (k:Nat)=>items[((0:Int)+(k:Int) * 1).toNat]?).toArray=(items.toList.take (items.size - 1)).toArray:=by
  have e:(fun (k:Nat)=>items[((0:Int)+(k:Int) * 1).toNat]?)=fun k=>items[0+k]? :=by
   funext k
   have:((0:Int)+(k:Int) * 1).toNat=0+k:=by lia
   rw [this]
  rw [e]
  have:=pick_run items 0 (items.size - 1)
  rw [List.filterMap_map] at this
  have e2:((fun x=>items[x]?) ∘ fun x=>0+x)=fun k=>items[0+k]? :=rfl
  rw [e2] at this
  rw [this,List.drop_zero]
 rw [if_neg hno,hpick]
 first
  |exact wpAny_bind (m:=Builtin.Tuple.tupleExact _) (wpAny_newObj_type (wpAny_pure ⟨_,rfl,wpAny_pure h⟩) hdrop)
  |exact wpAny_bind (m:=Builtin.Tuple.tupleExact _) (wpAny_newObj_type (wpAny_bind (wpAny_pure (wpAny_pure ⟨_,rfl,wpAny_pure h⟩))) hdrop)
  |exact wpAny_bind (wpAny_bind (m:=Builtin.Tuple.tupleExact _) (wpAny_newObj_type (wpAny_pure (wpAny_pure ⟨_,rfl,wpAny_pure h⟩)) hdrop))
  |exact wpAny_bind (wpAny_bind (m:=Builtin.Tuple.tupleExact _) (wpAny_newObj_type (wpAny_pure ⟨_,rfl,wpAny_pure h⟩) hdrop))
theorem DR {α β:Type} {f:α→β} {l:List α} {n m:Nat}:((l.map f).drop n).take m=((l.drop n).take m).map f:=by
 rw [List.map_take,List.map_drop]
noncomputable abbrev y3 (prog:Program) (w:World) (A:Around) (Q:Value→Shared→Prop) (E:Value→Shared→Prop) (s:Shared) (u a b:Value):Prop:=
 wpAny (model prog w) A (do let p ← getitemInPython u;operate [.ref s.heap.objs.size,u] (getItem u (.ref s.heap.objs.size))) Q E {s with heap:=s.heap.push {cls:=.type "slice",data:=.fields #[a,b,.none]}}
theorem DS {l r:List Nat} {u a b:Value} (hl:okL l=true) (h:CutAt l r a b) (to:BytAt u l) (post:aS w.params P s (.byt r) Q):y3 prog w A Q E s u a b:=by
 obtain ⟨bb,t,rfl,rfl⟩:=to
 obtain ⟨lo,hi,x,y,rfl⟩:=h
 have hle:=okL_le hl
 have hlen:(bb.toList.map UInt8.toNat).length=bb.size:=(List.length_map _).trans Array.length_toList
 rw [hlen] at hle
 have post':=opK (tk1:=s.toks) post (a8 {cls:=.type "slice",data:=.fields #[a,b,.none]}) (aU _)
 rw [hlen,DR] at post'
 exact sM (typeIs_bytes _ _ _) FB.slot_bytes_getitem.lookup (q0 (Heap.IsSliceOf.new s.heap a b .none) x y (Nat.le_trans hle (by decide)) fun t' k=>opY (b:=((bb.toList.drop _).take _).toArray) post' k t')
theorem DT {l r:List C} {u a b:Value} (hl:okL l=true) (h:CutAt l r a b) (to:TopR w.params P s.heap (.lst l) u) (post:aS w.params P s (.lst r) Q):y3 prog w A Q E s u a b:=by
 obtain ⟨d,ws,rfl,t,cr⟩:=sqH to
 obtain ⟨lo,hi,x,y,rfl⟩:=h
 have hle:=okL_le hl
 have len:=cP cr
 have k:Kept s.heap (s.heap.push {cls:=.type "slice",data:=.fields #[a,b,.none]}):=a8 _
 have post':=opK (tk1:=s.toks) post k (aU _)
 have t':=Heap.IsList.at t fun o e=>k _ _ e
 refine sM (T:="list") (Heap.IsList.typeIs t') slot_list_getitem.lookup ?_
 refine wpAny_getItem_list_slice (st:=none) t' (Heap.IsSliceOf.new s.heap a b .none) x y .none (fun e=>nomatch e) ?_ (len ▸ Nat.le_trans hle (by rw [sizeLine_eq];decide))
 refine opL (s:={s with heap:=s.heap.push {cls:=.type "slice",data:=.fields #[a,b,.none]},toks:=s.toks}) (tk:=s.toks) post' rfl ?_
 unfold slicePick
 rw [jE]
 refine (?_:CRs _ _ _ (List.filterMap _ (sliceRange ((loN ws.size lo:Nat):Int) ((hiN ws.size hi:Nat):Int) 1)))
 rw [uV,len]
 exact bW (fun a o e=>.inl e) _ _ (lP (q6 cr _) _)
theorem DU {l:List C} {i:Int} {u a b:Value} (hc:i= -1∧okL l=true∧l≠[]) (inh:Inh P s.heap) (to:CR w.params P (.tup l) u) (ta:a= .none) (tb:∃ t,b= .int i t) (post:aS w.params P s (.tup (l.take (l.length - 1))) Q):y3 prog w A Q E s u a b:=by
 obtain ⟨rfl,hl,hne⟩:=hc
 obtain ⟨d,ws,rfl,t,cr⟩:=sqA inh to
 obtain ⟨tk,rfl⟩:=tb
 subst ta
 have hle:=okL_le hl
 have len:=cP cr
 have k:Kept s.heap (s.heap.push {cls:=.type "slice",data:=.fields #[.none,.int (-1) tk,.none]}):=a8 _
 have post':=opK (tk1:=s.toks) post k (aU _)
 have t':=Heap.IsTuple.at t fun o e=>k _ _ e
 refine sM (T:="tuple") (Heap.IsTuple.typeIs t') PyProof.Rows.slot_tuple_getitem.lookup ?_
 refine fS t' (Heap.IsSliceOf.new s.heap .none (.int (-1) tk) .none) (len ▸ List.length_pos_iff.mpr hne) ?_ (len ▸ Nat.le_trans hle (by rw [sizeLine_eq];decide))
 refine opT (s:={s with heap:=s.heap.push {cls:=.type "slice",data:=.fields #[.none,.int (-1) tk,.none]},toks:=s.toks}) (tk:=s.toks) post' rfl ?_
 rw [len]
 exact bW (fun a o e=>.inl e) _ _ (lP cr _)
theorem HE {o lo hi x:C} (h:j5 o lo hi=some x) {u a b:Value} (inh:Inh P s.heap) (to:TopR w.params P s.heap o u) (tl:CR w.params P lo a) (th:CR w.params P hi b) (post:aS w.params P s x Q):
  wpAny (model prog w) A (newFields "slice" [a,b,.none]) (fun iv s'=>wpAny (model prog w) A (do let p ← getitemInPython u;operate [iv,u] (getItem u iv)) Q E s') E s:=by
 refine wpAny_newObj_type ?_
 rcases o with _ |l |l |l |l |l |l |_ |_ |_ |_ |_ |_ |_
 case byt=>obtain ⟨hl,h⟩:=ifO h;obtain ⟨r,hr,e⟩:=bM h;exact DS hl (qX hr tl th) to (Option.some.inj e ▸ post)
 case lst=>obtain ⟨hl,h⟩:=ifO h;obtain ⟨r,hr,e⟩:=bM h;exact DT hl (qX hr tl th) to (Option.some.inj e ▸ post)
 case tup=>
  obtain ⟨e1,h⟩:=ifO h
  obtain ⟨i,e2,h⟩:=bI h
  obtain ⟨hc,e⟩:=ifS h
  rw [o8 e1] at tl
  rw [e2] at th
  exact DU hc inh to tl th (e ▸ post)
 all_goals exact nn h
theorem DV {l:List C} (hl:l.length≤lim) {u:Value} {Q:Bool→Shared→Prop} (t:TopR w.params P s.heap (.lst l) u)
  (post:∀ h' tk,Kept s.heap h'→s.heap.objs.size≤h'.objs.size→Q (!l.isEmpty) {s with heap:=h',toks:=tk}):wpAny (model prog w) A (truthy u) Q E s:=by
 obtain ⟨d,ws,rfl,t',cr⟩:=sqH t
 have len:=cP cr
 refine wpAny_truthy_list t' (Int.lt_of_le_of_lt (Int.ofNat_le.mpr (Nat.le_trans (Nat.le_of_eq len) hl)) (by decide)) ?_
 have e:(!ws.isEmpty)= !l.isEmpty:=congrArg not (by rw [Bool.eq_iff_iff,Array.isEmpty_iff,List.isEmpty_iff,← List.length_eq_zero_iff,← len,Array.size_eq_zero_iff])
 rw [e]
 exact post _ _ (fun _ _ e=>e) (Nat.le_refl _)
inductive TwoI (f:Int→Int→Bool) (t:Bool) (u v:Value):Prop
 |mk (i j:Int) (ti tj:Tok) (e:u= .int i ti) (e':v= .int j tj) (h:t=f i j)
theorem ltT {f:Int→Int→Bool} {a b:C} {t:Bool} (h:ltI f a b=some t) {u v:Value} (ta:TopR w.params P s.heap a u) (tb:TopR w.params P s.heap b v):TwoI f t u v:=by
 obtain ⟨i,e,h⟩:=bI h
 obtain ⟨j,e',h⟩:=bI h
 rw [e] at ta
 rw [e'] at tb
 obtain ⟨t,rfl⟩:=ta
 obtain ⟨t',rfl⟩:=tb
 exact ⟨i,j,t,t',rfl,rfl,(Option.some.inj h).symm⟩
theorem DW {op:CmpOp} {a b:C} {t:Bool} (h:BJ op a b=some t) {u v:Value} (hu:A.units≤9000) (inh:Inh P s.heap) (ta:TopR w.params P s.heap a u) (tb:TopR w.params P s.heap b v)
  (post:∀ h' tk,Kept s.heap h'→s.heap.objs.size≤h'.objs.size→Q (.bool t) {s with heap:=h',toks:=tk}):wpAny (model prog w) A (compareOp op u v) Q E s:=by
 have q:∀ tk,Q (.bool t) {s with toks:=tk}:=fun tk=>post s.heap tk (fun _ _ e=>e) (Nat.le_refl _)
 cases op
 case Eq=>exact (E6 h hu inh ta tb).1 (q s.toks)
 case NotEq=>
  obtain ⟨t',ht,rfl⟩:=Option.map_eq_some_iff.mp (show (wR a b).map (!·)=some t from h)
  exact (E6 ht hu inh ta tb).2 (q s.toks)
 case In=>exact (FA h inh ta tb).1 q
 case NotIn=>
  obtain ⟨t',ht,rfl⟩:=Option.map_eq_some_iff.mp (show (BI a b).map (!·)=some t from h)
  exact (FA ht inh ta tb).2 q
 case Lt=>obtain ⟨_,_,_,_,rfl,rfl,rfl⟩:=ltT h ta tb;exact PyProof.Rows.lt_int (q s.toks)
 case LtE=>obtain ⟨_,_,_,_,rfl,rfl,rfl⟩:=ltT h ta tb;exact PyProof.Rows.le_int (q s.toks)
 case Gt=>obtain ⟨_,_,_,_,rfl,rfl,rfl⟩:=ltT h ta tb;exact PyProof.Rows.gt_int (q s.toks)
 case GtE=>obtain ⟨_,_,_,_,rfl,rfl,rfl⟩:=ltT h ta tb;exact PyProof.Rows.ge_int (q s.toks)
 all_goals exact nn h
end
section
variable {prog:Program} {w:World} {A:Around} {E:Value→Shared→Prop} {s:Shared} {P:Fz} {W:Params}
inductive KyV (W:Params) (P:Fz):List (List Nat × C)→List (Str × Value)→Prop
 |nil:KyV W P [] []
 |cons {x c v l kvs}:CR W P c v→KyV W P l kvs→KyV W P ((x.cps.toList,c)::l) ((x,v)::kvs)
theorem K1 {l:List (List Nat × C)}:∀ {es:List DictEntry},CRd w.params P l es→∃ kvs,KyV w.params P l kvs∧Pairs (PySem.strKind prog w) es kvs∧kvs.map (·.1.cps.toList)=l.map (·.1):=by
 induction l with
 |nil=>intro es r;have h0:es=[]:=r;subst h0;exact ⟨[],.nil,.nil,rfl⟩
 |cons p l ih=>
  intro es r
  obtain ⟨x,t,v,rest,rfl,e2,e3,e4⟩:=r
  obtain ⟨pk,pc⟩:=p
  dsimp only at e2 e3
  subst e2
  obtain ⟨kvs,a,b,c⟩:=ih e4
  exact ⟨(x,v)::kvs,.cons e3 a,.cons (by show (x == x)=true;simp) rfl b,by simp [c]⟩
theorem HG {l:List (List Nat × C)} {kvs:List (Str × Value)} (k:KyV w.params P l kvs):∀ {es:List DictEntry},Pairs (PySem.strKind prog w) es kvs→(∀ e∈es,∃ k,(PySem.strKind prog w).is k e.key=true∧e.hash=(PySem.strKind prog w).hash k)→CRd w.params P l es:=by
 induction k with
 |nil=>intro es p _;cases p;exact rfl
 | @cons x c v l kvs cr kv ih=>
  intro es p hk
  cases p with
  | @cons e kv' es' kvs' h1 h2 h3=>
   obtain ⟨t,ht⟩:=Value.isStrOf_shape h1
   obtain ⟨k',hk1,hk2⟩:=hk e (by simp)
   have:k'=x:=(PySem.strKind prog w).inj e.key k' x hk1 h1
   subst this
   refine ⟨k',t,v,es',?_,rfl,cr,ih h3 fun e he=>hk e (by simp [he])⟩
   congr 1
   obtain ⟨hs,ky,vl⟩:=e
   dsimp only at ht h2 hk2
   subst ht;subst h2
   rw [hk2];rfl
theorem vW {l:List (List Nat × C)} {kvs:List (Str × Value)} (k:KyV W P l kvs) {x:C} {u:Value} (cu:CR W P x u) (y:Str):(kvs.map (·.1)).Nodup→KyV W P (vE y.cps.toList x l) (stored kvs y u):=by
 intro nd
 induction k with
 |nil=>exact .cons cu .nil
 | @cons z c v l kvs cr kv ih=>
  rw [List.map_cons,List.nodup_cons] at nd
  simp only [vE]
  cases q:z.cps.toList == y.cps.toList with
  |true=>
   have e:z=y:=HA (eq_of_beq q)
   subst e
   have:stored ((z,v)::kvs) z u=(z,u)::kvs:=by
    unfold stored
    simp only [List.any_cons,decide_true,Bool.true_or,if_true,List.map_cons]
    congr 1
    exact map_store_of_not_mem kvs z u nd.1
   rw [this]
   exact .cons cu kv
  |false=>
   have ne:¬z=y:=fun e=>by subst e;simp at q
   have:stored ((z,v)::kvs) y u=(z,v)::stored kvs y u:=by
    unfold stored
    simp only [List.any_cons,decide_eq_false ne,Bool.false_or,List.map_cons,if_neg ne]
    split <;> rfl
   rw [this]
   exact .cons cr (ih nd.2)
theorem sR {kvs:List (Str × Value)}:∀ {l:List (List Nat)},kvs.map (·.1.cps.toList)=l→mE l=true→(kvs.map (·.1)).Nodup:=by
 induction kvs with
 |nil=>intro l _ _;exact List.nodup_nil
 |cons p kvs ih=>
  intro l e h
  subst e
  simp only [List.map_cons,mE,Bool.and_eq_true,Bool.not_eq_true'] at h
  rw [List.map_cons,List.nodup_cons]
  refine ⟨fun q=> ?_,ih rfl h.2⟩
  obtain ⟨p',hp',e⟩:=List.mem_map.mp q
  have:(kvs.map (·.1.cps.toList)).contains p.1.cps.toList=true:=List.contains_iff_mem.mpr (List.mem_map.mpr ⟨p',hp',by rw [e]⟩)
  rw [this] at h;cases h.1
theorem sS {h:Heap} {a:Addr} {kvs:List (Str × Value)} {l:List (List Nat × C)} (d:h.DictOf (PySem.strKind prog w) a kvs) (k:KyV w.params P l kvs):∃ es n,h.get? a=some (dO es n)∧CRd w.params P l es.toList:=by
 obtain ⟨o,es,ep,g,⟨h1,h2,h3⟩,hd,hk,hp,_⟩:=d
 obtain ⟨oc,od,oda,os⟩:=o
 dsimp only at h1 h2 h3 hd
 subst h1;subst h2;subst h3;subst hd
 exact ⟨es,ep,g,HG k hp fun e he=>hk e (by simpa using he)⟩
theorem HH {Q:Unit→Shared→Prop} {a n y t u} (ne:a≠1) (g:s.heap.get? a=some (dO #[] n))
  (post:∀ h' n' t' tk,h'.get? a=some (dO #[⟨PyData.keyHash w.params y,.str y t',u⟩] n')→(∀ b,b≠a→h'.get? b=s.heap.get? b)→h'.objs.size=s.heap.objs.size→Q () {s with heap:=h',toks:=tk}):
  wpAny (model prog w) A (dictSet a (.str y t) u) Q E s:=by
 have hD:s.heap.DictOf (PySem.strKind prog w) a []:=⟨_,#[],n,g,⟨rfl,rfl,rfl⟩,rfl,by intro e he;simp at he,.nil,List.nodup_nil⟩
 refine wpAny_dictSet_pairs (knd:=PySem.strKind prog w) (k:=y) (by show (y == y)=true;simp) hD (fun h' hd' hs'=> ?_) (by rw [sizeLine_eq];simp)
 obtain ⟨o,es,ep,g',⟨h1,h2,h3⟩,hd,hk,hp,_⟩:=hd'
 obtain ⟨oc,od,oda,os⟩:=o
 dsimp only at h1 h2 h3 hd
 subst h1;subst h2;subst h3;subst hd
 have hst:stored ([]:List (Str × Value)) y u=[(y,u)]:=rfl
 rw [hst] at hp
 cases hes:es.toList with
 |nil=>rw [hes] at hp;cases hp
 |cons e r=>
  rw [hes] at hp
  cases hp with
  |cons q1 q2 q3=>
   cases q3
   obtain ⟨t',ht'⟩:=Value.isStrOf_shape q1
   obtain ⟨k',hk1,hk2⟩:=hk e (by rw [← Array.mem_toList_iff,hes];simp)
   have:k'=y:=(PySem.strKind prog w).inj e.key k' y hk1 q1
   subst this
   obtain ⟨hh,ky,vl⟩:=e
   dsimp only at ht' q2 hk2
   subst ht';subst q2
   have ees:es= #[⟨PyData.keyHash w.params k',.str k' t',vl⟩]:=by
    apply Array.toList_inj.mp
    rw [hes,hk2];rfl
   subst ees
   exact post h' ep t' _ g' hs'.2 hs'.1
theorem HI {Q:Unit→Shared→Prop} {a es n u y t l x} (hl:l.length≤8) (hd:mE (l.map (·.1))=true) (ne:a≠1) (g:s.heap.get? a=some (dO es n)) (r:CRd w.params P l es.toList) (cu:CR w.params P x u)
  (post:∀ h' es' n' tk,h'.get? a=some (dO es' n')→(∀ b,b≠a→h'.get? b=s.heap.get? b)→h'.objs.size=s.heap.objs.size→CRd w.params P (vE y.cps.toList x l) es'.toList→Q () {s with heap:=h',toks:=tk}):
  wpAny (model prog w) A (setItem (.ref a) (.str y t) u) Q E s:=by
 obtain ⟨kvs,k1,k2,k3⟩:=K1 (prog:=prog) (w:=w) r
 have nd:=sR k3 hd
 obtain ⟨_,_,_,g',_,dd,hk,_⟩:=yW (prog:=prog) (w:=w) g r
 have hD:s.heap.DictOf (PySem.strKind prog w) a kvs:=by
  rw [g] at g';cases g';cases dd
  exact ⟨_,es,n,g,⟨rfl,rfl,rfl⟩,rfl,hk,k2,nd⟩
 have hlen:kvs.length≤8:=by
  have:=congrArg List.length k3
  simp at this;lia
 refine wpAny_setItem_pairs (knd:=PySem.strKind prog w) (k:=y) (by show (y == y)=true;simp) hD (fun h' hd' hs'=> ?_) (by rw [sizeLine_eq];lia)
 obtain ⟨es',n',g2,r2⟩:=sS hd' (vW k1 cu y nd)
 exact post h' es' n' _ g2 hs'.2 hs'.1 r2
end
section
variable (prog:Program) (w:World)
theorem op5:Op5 prog w where
 dst:=by
  intro A s Q E a n y t u ne g post
  exact HH ne g post
end
namespace FY
theorem slot_find:Slot "bytes" "find" "bytes.find":=
 .of (owner:="bytes") (n:="find") (by rw [typeLookup_type,builtinLookup_eq_fast];kernel_rfl) (by decide+kernel) (by decide+kernel) (by decide+kernel)
  (by first |exact .inl (by decide+kernel) |exact .inr (by decide+kernel)) (by rw [isSubtype_type];kernel_rfl)
theorem entry_find:entryFor table "bytes.find"=some Builtin.«bytes.find»:=entryFor_of_tree (by kernel_rfl)
theorem args_find1 (a b:Value):argsOk "bytes.find" ⟨[a,b],[]⟩:=by unfold argsOk;kernel_rfl
theorem args_find2 (a b c:Value):argsOk "bytes.find" ⟨[a,b,c],[]⟩:=by unfold argsOk;kernel_rfl
theorem args_find3 (a b c d:Value):argsOk "bytes.find" ⟨[a,b,c,d],[]⟩:=by unfold argsOk;kernel_rfl
theorem slot_rstrip:Slot "bytes" "rstrip" "bytes.rstrip":=
 .of (owner:="bytes") (n:="rstrip") (by rw [typeLookup_type,builtinLookup_eq_fast];kernel_rfl) (by decide+kernel) (by decide+kernel) (by decide+kernel)
  (by first |exact .inl (by decide+kernel) |exact .inr (by decide+kernel)) (by rw [isSubtype_type];kernel_rfl)
theorem entry_rstrip:entryFor table "bytes.rstrip"=some Builtin.«bytes.rstrip»:=entryFor_of_tree (by kernel_rfl)
theorem args_rstrip (a b:Value):argsOk "bytes.rstrip" ⟨[a,b],[]⟩:=by unfold argsOk;kernel_rfl
theorem slot_strip:Slot "bytes" "strip" "bytes.strip":=
 .of (owner:="bytes") (n:="strip") (by rw [typeLookup_type,builtinLookup_eq_fast];kernel_rfl) (by decide+kernel) (by decide+kernel) (by decide+kernel)
  (by first |exact .inl (by decide+kernel) |exact .inr (by decide+kernel)) (by rw [isSubtype_type];kernel_rfl)
theorem entry_strip:entryFor table "bytes.strip"=some Builtin.«bytes.strip»:=entryFor_of_tree (by kernel_rfl)
theorem args_strip (a b:Value):argsOk "bytes.strip" ⟨[a,b],[]⟩:=by unfold argsOk;kernel_rfl
theorem slot_split:Slot "bytes" "split" "bytes.split":=
 .of (owner:="bytes") (n:="split") (by rw [typeLookup_type,builtinLookup_eq_fast];kernel_rfl) (by decide+kernel) (by decide+kernel) (by decide+kernel)
  (by first |exact .inl (by decide+kernel) |exact .inr (by decide+kernel)) (by rw [isSubtype_type];kernel_rfl)
theorem entry_split:entryFor table "bytes.split"=some Builtin.«bytes.split»:=entryFor_of_tree (by kernel_rfl)
theorem args_split (a b:Value):argsOk "bytes.split" ⟨[a,b],[]⟩:=by unfold argsOk;kernel_rfl
theorem slot_join:Slot "bytes" "join" "bytes.join":=
 .of (owner:="bytes") (n:="join") (by rw [typeLookup_type,builtinLookup_eq_fast];kernel_rfl) (by decide+kernel) (by decide+kernel) (by decide+kernel)
  (by first |exact .inl (by decide+kernel) |exact .inr (by decide+kernel)) (by rw [isSubtype_type];kernel_rfl)
theorem entry_join:entryFor table "bytes.join"=some Builtin.«bytes.join»:=entryFor_of_tree (by kernel_rfl)
theorem args_join (a b:Value):argsOk "bytes.join" ⟨[a,b],[]⟩:=by unfold argsOk;kernel_rfl
theorem type_find:typeOf (.builtin "bytes.find")=pure (.type "method_descriptor"):=by show builtinType _=_;rw [builtinType_eq_fast];kernel_rfl
theorem type_rstrip:typeOf (.builtin "bytes.rstrip")=pure (.type "method_descriptor"):=by show builtinType _=_;rw [builtinType_eq_fast];kernel_rfl
theorem type_strip:typeOf (.builtin "bytes.strip")=pure (.type "method_descriptor"):=by show builtinType _=_;rw [builtinType_eq_fast];kernel_rfl
theorem type_split:typeOf (.builtin "bytes.split")=pure (.type "method_descriptor"):=by show builtinType _=_;rw [builtinType_eq_fast];kernel_rfl
theorem type_join:typeOf (.builtin "bytes.join")=pure (.type "method_descriptor"):=by show builtinType _=_;rw [builtinType_eq_fast];kernel_rfl
end FY
theorem q7 {c:Nat} {l:List Nat}:∀ (k lo:Nat),lo+k≤l.length→((List.range k).map (·+lo)).find? (fun i=>l[i]? == some c)=cZ c ((l.drop lo).take k) lo
 |0,lo,_=>by simp [cZ]
 |k+1,lo,h=>by
  have hlt:lo < l.length:=by lia
  rw [List.range_succ_eq_map,List.map_cons,List.find?_cons,List.drop_eq_getElem_cons hlt,List.take_succ_cons]
  simp only [cZ,Nat.zero_add]
  rw [List.getElem?_eq_getElem hlt]
  cases q:Nat.beq l[lo] c with
  |true=>
   have:(some l[lo] == some c)=true:=by simp [Nat.eq_of_beq_eq_true q]
   rw [this]
  |false=>
   have:(some l[lo] == some c)=false:=by
    rw [beq_eq_false_iff_ne]
    intro e
    have:=Option.some.inj e
    rw [this,Nat.beq_refl] at q;cases q
   rw [this]
   dsimp only
   rw [← q7 k (lo+1) (by lia),List.map_map]
   congr 2
   funext x
   simp only [Function.comp_apply]
   lia
theorem jN {α:Type} {f g:α→Bool}:∀ {l:List α},(∀ x∈l,f x=g x)→l.find? f=l.find? g
 | [],_=>rfl
 |a::l,h=>by rw [List.find?_cons,List.find?_cons,h a (by simp),jN fun x hx=>h x (by simp [hx])]
theorem y4 {b:Array UInt8} {c:UInt8} {lo hi:Nat} (h:lo≤hi) (hh:hi≤b.size):Builtin.Bytes.find? b #[c] lo hi=cZ c.toNat (((b.toList.map UInt8.toNat).take hi).drop lo) lo:=by
 unfold Builtin.Bytes.find?
 have e1:hi+1 - (lo+(#[c]:Array UInt8).size)=hi - lo:=by simp
 have e2:((b.toList.map UInt8.toNat).take hi).drop lo=((b.toList.map UInt8.toNat).drop lo).take (hi - lo):=by rw [List.drop_take]
 rw [e1,e2,← q7 _ _ (by simp;lia)]
 refine jN ?_
 intro i hi'
 obtain ⟨k,hk,rfl⟩:=List.mem_map.mp hi'
 rw [List.mem_range] at hk
 have hlt:k+lo < b.size:=by lia
 have ex:b.extract (k+lo) (k+lo+(#[c]:Array UInt8).size)= #[b[k+lo]]:=by
  apply Array.ext
  ·simp;lia
  ·intro j h1 h2
   have:j=0:=by simp at h2;lia
   subst this
   simp
 rw [ex,List.getElem?_map,Array.getElem?_toList]
 simp only [hlt,getElem?_pos,Option.map_some]
 by_cases q:b[k+lo]=c
 ·rw [q];simp
 ·have h1:(#[b[k+lo]] == #[c])=false:=by
   rw [beq_eq_false_iff_ne]
   intro e
   have:=congrArg Array.toList e
   simp at this
   exact q this
  have h2:(some b[k+lo].toNat == some c.toNat)=false:=by
   rw [beq_eq_false_iff_ne]
   intro e
   exact q (UInt8.toNat_inj.mp (Option.some.inj e))
  rw [h1,h2]
theorem jF {i:Int} {t:Tok}:Builtin.Bytes.bound? (some (.int i t))=pure (some i):=by
 unfold Builtin.Bytes.bound?
 have e:specialOf (.int i t) "__index__"=typeLookup (.type "int") "__index__":=rfl
 dsimp only
 rw [e,F.slot_int_index.lookup]
 rfl
theorem hW:Builtin.Bytes.bound? none=pure none:=rfl
noncomputable def lQ (n:Nat) (a:Option Int) (d:Nat):Nat:=match a with
 |none=>d
 |some i=>clip n i
noncomputable def fe (n:Nat) (i:Int):Int:=if i < 0 then max 0 (i+n) else i
theorem K2 (n:Nat) (i:Int):0≤fe n i:=by
 unfold fe
 by_cases h:i < 0
 ·rw [if_pos h];exact Int.le_max_left _ _
 ·rw [if_neg h];exact Int.not_lt.mp h
theorem uW (n:Nat) (i:Int):((clip n i:Nat):Int)=min (fe n i) n:=by
 rw [← iP]
 unfold fe
 by_cases h:i < 0
 ·rw [if_pos h,if_pos h,Int.min_eq_left (by lia),Int.min_eq_left (by lia)]
 ·rw [if_neg h,if_neg h,Int.max_eq_right (Int.le_min.mpr ⟨Int.not_lt.mp h,Int.natCast_nonneg n⟩)]
theorem DX (n:Nat) (lo:Option Int):lQ n lo 0=clip n (lo.getD 0):=by
 rcases lo with _ |i
 ·exact (Nat.zero_min n).symm
 ·rfl
theorem DY (n:Nat) (hi:Option Int):lQ n hi n=clip n (hi.getD n):=by
 rcases hi with _ |i
 ·exact (Nat.min_self n).symm
 ·rfl
noncomputable def atN (o:Option Nat):Int:=match o with
 |some i=>i
 |none=> -1
theorem y5 {b:Array UInt8} {c:UInt8} {lo hi:Option Int}:atN ((if (Builtin.Bytes.window b.size lo hi).2 - (Builtin.Bytes.window b.size lo hi).1 < ((#[c]:Array UInt8).size:Int) then none else some ((Builtin.Bytes.window b.size lo hi).1.toNat,(Builtin.Bytes.window b.size lo hi).2.toNat)).bind fun p=>Builtin.Bytes.find? b #[c] p.1 p.2)=
  fW (b.toList.map UInt8.toNat) c.toNat (lQ b.size lo 0) (lQ b.size hi b.size):=by
 have h0:=K2 b.size (lo.getD 0)
 have h1:=uW b.size (lo.getD 0)
 have h2:=uW b.size (hi.getD b.size)
 rw [← DX] at h1
 rw [← DY,Int.min_comm] at h2
 have hw:Builtin.Bytes.window b.size lo hi=(fe b.size (lo.getD 0),min (b.size:Int) (fe b.size (hi.getD b.size))):=rfl
 rw [hw,← h2]
 clear hw
 generalize fe b.size (lo.getD 0)=x at h0 h1
 generalize lQ b.size lo 0=a at h1
 have hc:lQ b.size hi b.size≤b.size:=Int.ofNat_le.mp (h2 ▸ Int.min_le_left _ _)
 clear h2
 generalize lQ b.size hi b.size=d at hc
 refine (?_:atN ((if (d:Int) - x < 1 then none else some (x.toNat,d)).bind fun p=>Builtin.Bytes.find? b #[c] p.1 p.2)=atN (cZ c.toNat (((b.toList.map UInt8.toNat).take d).drop a) a))
 by_cases q:(d:Int) - x < 1
 ·have:((b.toList.map UInt8.toNat).take d).drop a=[]:=List.drop_of_length_le (Nat.le_trans (List.length_take_le _ _) (by lia))
  rw [if_pos q,this];rfl
 ·have hx:x=a:=by lia
  subst hx
  rw [if_neg q]
  exact congrArg atN (y4 (lo:=a) (by lia) hc)
theorem sT {b sub:Array UInt8} {t u:Tok} {rest:List Value} {lo hi:Option Int} {c:UInt8} (hs:sub= #[c]) (hr:rest.length≤2) (h1:Builtin.Bytes.bound? rest[0]? =pure lo) (h2:Builtin.Bytes.bound? rest[1]? =pure hi):
  Gives (Builtin.«bytes.find» ⟨.bytes b t:: .bytes sub u::rest,[]⟩) (.int (fW (b.toList.map UInt8.toNat) c.toNat (lQ b.size lo 0) (lQ b.size hi b.size))):=by
 subst hs
 refine .of_wp fun M A E s Q hq=> ?_
 show wpAny M A (Builtin.Bytes.searchArgs .bytes "find" _ >>=fun r=>_) _ E s
 refine wpAny_bind ?_
 unfold Builtin.Bytes.searchArgs
 have e1:selfAndSome (toString (Builtin.Bytes.Kind.name .bytes)++toString "."++toString "find") "find" 1 3 ⟨.bytes b t:: .bytes #[c] u::rest,[]⟩=pure (.bytes b t,.bytes #[c] u::rest):=by
  cases rest with
  |nil=>rfl
  |cons x rest=>
   cases rest with
   |nil=>rfl
   |cons y rest=>
    cases rest with
    |nil=>rfl
    |cons _ _=>simp at hr
 dsimp only
 rw [e1]
 refine wpAny_bind (wpAny_pure ?_)
 show wpAny M A (Builtin.Bytes.bound? rest[0]? >>=fun r=>_) _ E s
 rw [h1]
 refine wpAny_bind (wpAny_pure ?_)
 show wpAny M A (Builtin.Bytes.bound? rest[1]? >>=fun r=>_) _ E s
 rw [h2]
 refine wpAny_bind (wpAny_pure ?_)
 show wpAny M A (Builtin.Bytes.buffer? _ (.bytes #[c] u) >>=fun r=>_) _ E s
 rw [KBy.buffer_eq]
 refine wpAny_bind (wpAny_pure ?_)
 dsimp only
 refine wpAny_bind (wpAny_pure ?_)
 refine wpAny_bind (wpAny_of_eq (a:=b) rfl ?_)
 refine wpAny_pure ?_
 rw [← y5 (b:=b) (c:=c) (lo:=lo) (hi:=hi)] at hq
 refine (?_:wpAny M A (match ((if (Builtin.Bytes.window b.size lo hi).2 - (Builtin.Bytes.window b.size lo hi).1 < ((#[c]:Array UInt8).size:Int) then none else some ((Builtin.Bytes.window b.size lo hi).1.toNat,(Builtin.Bytes.window b.size lo hi).2.toNat)).bind fun p=>Builtin.Bytes.find? b #[c] p.1 p.2) with |some i=>retInt i |none=>_) _ E s)
 generalize Option.bind _ (fun p:Nat × Nat=>Builtin.Bytes.find? b #[c] p.1 p.2)=r at hq
 rcases r with _ |i
 ·exact wpAny_bind (wpAny_rule (wpAny_bind (wpAny_mkInt (wpAny_pure ⟨_,rfl,hq⟩))))
 ·exact wpAny_bind (wpAny_mkInt (wpAny_pure ⟨_,rfl,hq⟩))
theorem q8 {b cs:Array UInt8} {t u:Tok} {left:Bool} {nm:String} {k:Array UInt8} (hk:k=(((if left then b.toList.dropWhile cs.contains else b.toList).reverse.dropWhile cs.contains).reverse).toArray):
  ∀ {prog:Program} {w:World} {A:Around} {E:Value→Shared→Prop} {s:Shared} {Q:Value→Shared→Prop},(∀ t' tk,Q (.bytes k t') {s with toks:=tk})→b.size≤16777216→
  wpAny (model prog w) A (Builtin.Bytes.stripM .bytes nm left true ⟨[.bytes b t,.bytes cs u],[]⟩) (fun fin s'=>∃ v,fin= .done (.ret v)∧Q v s') E s:=by
 intro prog w A E s Q hq hz
 unfold Builtin.Bytes.stripM
 dsimp only
 have e1:selfAndSome (toString (Builtin.Bytes.Kind.name .bytes)++toString "."++toString nm) nm 0 1 ⟨[.bytes b t,.bytes cs u],[]⟩=pure (.bytes b t,[.bytes cs u]):=rfl
 rw [e1]
 refine wpAny_bind (wpAny_pure ?_)
 dsimp only
 have e2:∀ id:String,Builtin.Bytes.bytesLike id (.bytes cs u)=pure cs:=by
  intro id
  unfold Builtin.Bytes.bytesLike
  rw [KBy.buffer_eq];rfl
 rw [e2]
 refine wpAny_bind (wpAny_pure (wpAny_bind (wpAny_pure (wpAny_bind (wpAny_of_eq (a:=b) rfl ?_)))))
 simp only [if_true]
 obtain ⟨kept,hkept⟩:∃ kept,kept=(((if left then b.toList.dropWhile cs.contains else b.toList).reverse.dropWhile cs.contains).reverse):=⟨_,rfl⟩
 rw [← hkept] at hk ⊢
 have hsub:kept.Sublist b.toList:=by
  rw [hkept]
  have h1:∀ l:List UInt8,((l.reverse.dropWhile cs.contains).reverse).Sublist l:=by
   intro l
   have:=(List.dropWhile_sublist cs.contains (l:=l.reverse)).reverse
   rwa [List.reverse_reverse] at this
  refine (h1 _).trans ?_
  cases left with
  |true=>exact List.dropWhile_sublist _
  |false=>exact List.Sublist.refl _
 have hle:kept.length≤b.size:=by
  have:=hsub.length_le
  simpa using this
 by_cases q:(kept.length == b.size)=true
 ·rw [if_pos q]
  have e:kept=b.toList:=hsub.eq_of_length (by rw [Array.length_toList];exact eq_of_beq q)
  have hkb:k=b:=by rw [hk,e]
  subst hkb
  refine wpAny_bind (wpAny_rule (wpAny_bind ?_))
  unfold Builtin.Bytes.Kind.same
  rw [if_pos (by decide)]
  refine wpAny_bind (wpAny_typeOf (typeIs_bytes _ _ _) ?_)
  rw [if_pos (by decide)]
  exact wpAny_pure (wpAny_pure ⟨_,rfl,hq _ s.toks⟩)
 ·rw [if_neg q]
  refine wpAny_bind ?_
  unfold Builtin.Bytes.Kind.new
  refine wpAny_mkBytes (wpAny_pure ⟨_,rfl,?_⟩) (by rw [sizeLine_eq];show kept.length≤_;lia)
  rw [← hk]
  exact hq _ _
theorem lR {cs:Array UInt8}:∀ {l:List UInt8},(l.dropWhile cs.contains).map UInt8.toNat=(l.map UInt8.toNat).dropWhile (cs.toList.map UInt8.toNat).contains
 | []=>rfl
 |a::l=>by
  have e:cs.contains a=(cs.toList.map UInt8.toNat).contains a.toNat:=by
   have h:=iO (b:=cs) (n:=a.toNat) a.toNat_lt
   rwa [show a.toNat.toUInt8=a from UInt8.toNat_inj.mp (by show a.toNat % 256=a.toNat;have:=a.toNat_lt;lia)] at h
  rw [List.map_cons,List.dropWhile_cons,List.dropWhile_cons,e]
  split
  ·exact lR
  ·rfl
theorem m5 {cs:Array UInt8} {l:List UInt8}:((l.reverse.dropWhile cs.contains).reverse).map UInt8.toNat=j7 (cs.toList.map UInt8.toNat) (l.map UInt8.toNat):=by
 unfold j7
 rw [List.map_reverse,lR,List.map_reverse]
noncomputable def jG (l:List Nat) (i:Nat):Bool:=l[i]? == some 13 && l[i+1]? == some 10
noncomputable def c5 (l:List Nat) (last:Nat):List Nat→List (List Nat)
 | []=>[l.drop last]
 |p::ps=>(l.drop last).take (p - last)::c5 l (p+2) ps
noncomputable def cA (l:List Nat) (i k:Nat):List Nat:=((List.range k).map (·+i)).filter (jG l)
theorem fH (l:List Nat) (i k:Nat):cA l i (k+1)=if jG l i then i::cA l (i+1) k else cA l (i+1) k:=by
 unfold cA
 rw [List.range_succ_eq_map,List.map_cons,List.filter_cons,List.map_map]
 have:(List.range k).map ((·+i) ∘ Nat.succ)=(List.range k).map (·+(i+1)):=by
  congr 1
  funext x
  simp only [Function.comp_apply];lia
 rw [this,Nat.zero_add]
theorem y6 (l:List Nat):∀ (k i last:Nat),i+k+1=l.length∨(k=0∧l.length≤i)→last≤i→i≤l.length→c5 l last (cA l i k)=bH (l.drop i) ((l.drop last).take (i - last)).reverse:=by
 intro k
 induction k using Nat.strongRecOn with
 |ind k ih=>
  intro i last hk hl hi
  cases k with
  |zero=>
   have h1:cA l i 0=[]:=rfl
   rw [h1]
   simp only [c5]
   rcases hk with hk | ⟨_,hk⟩
   ·have:l.drop i=[l[i]]:=by
     rw [List.drop_eq_getElem_cons (by lia)]
     rw [List.drop_of_length_le (by lia)]
    rw [this]
    have e:bH [l[i]] ((l.drop last).take (i - last)).reverse=[(l[i]::((l.drop last).take (i - last)).reverse).reverse]:=by
     simp [bH]
    rw [e,List.reverse_cons,List.reverse_reverse]
    congr 1
    have:l.drop last=(l.drop last).take (i - last)++(l.drop last).drop (i - last):=(List.take_append_drop _ _).symm
    conv=>lhs;rw [this]
    congr 1
    rw [List.drop_drop,show last+(i - last)=i by lia]
    assumption
   ·rw [List.drop_of_length_le (by lia:l.length≤i)]
    simp only [bH,List.reverse_reverse]
    rw [List.take_of_length_le (by simp;lia)]
  |succ k=>
   have hk':i+(k+1)+1=l.length:=by
    rcases hk with hk | ⟨h,_⟩
    ·exact hk
    ·cases h
   have hlt:i < l.length:=by lia
   have hlt1:i+1 < l.length:=by lia
   have hd:l.drop i=l[i]::l[i+1]::l.drop (i+2):=by
    rw [List.drop_eq_getElem_cons hlt,List.drop_eq_getElem_cons hlt1]
   have hcl:jG l i=(l[i] == 13 && l[i+1] == 10):=by
    unfold jG
    rw [List.getElem?_eq_getElem hlt,List.getElem?_eq_getElem hlt1]
    rfl
   rw [fH,hd]
   cases q:jG l i with
   |true=>
    rw [q] at hcl
    have:=hcl.symm
    simp only [Bool.and_eq_true,beq_iff_eq] at this
    rw [this.1,this.2]
    simp only [if_true,c5,bH,List.reverse_reverse]
    congr 1
    have h1:jG l (i+1)=false:=by
     unfold jG
     rw [List.getElem?_eq_getElem hlt1,this.2]
     rfl
    cases k with
    |zero=>
     have e0:cA l (i+1) 0=[]:=rfl
     rw [e0]
     have hlast:i+2=l.length:=by lia
     simp only [c5]
     rw [List.drop_of_length_le (by lia:l.length≤i+2)]
     rfl
    |succ k=>
     rw [fH,h1]
     simp only [Bool.false_eq_true,if_false]
     have:=ih k (by lia) (i+2) (i+2) (.inl (by lia)) (Nat.le_refl _) (by lia)
     rw [show i+1+1=i+2 from rfl,this]
     simp
   |false=>
    simp only [Bool.false_eq_true,if_false]
    rw [q] at hcl
    have hs:bH (l[i]::l[i+1]::l.drop (i+2)) ((l.drop last).take (i - last)).reverse=bH (l[i+1]::l.drop (i+2)) (l[i]::((l.drop last).take (i - last)).reverse):=by
     rw [bH]
     intro r e1 e2
     have:=hcl
     rw [e1] at this
     simp only [List.cons.injEq] at e2
     rw [e2.1] at this
     simp at this
    rw [hs]
    have hacc:l[i]::((l.drop last).take (i - last)).reverse=((l.drop last).take (i+1 - last)).reverse:=by
     rw [show i+1 - last=(i - last)+1 by lia,List.take_add_one,List.reverse_append]
     have:(l.drop last)[i - last]? =some l[i]:=by
      rw [List.getElem?_drop,show last+(i - last)=i by lia,List.getElem?_eq_getElem hlt]
     rw [this];rfl
    have hd1:l[i+1]::l.drop (i+2)=l.drop (i+1):=(List.drop_eq_getElem_cons hlt1).symm
    rw [hacc,hd1]
    exact ih k (by lia) (i+1) last (.inl (by lia)) (by lia) (by lia)
theorem q9 (l:List Nat):c5 l 0 (cA l 0 (l.length - 1))=bH l []:=by
 have:=y6 l (l.length - 1) 0 0 (by lia) (Nat.le_refl _) (Nat.zero_le _)
 simpa using this
theorem oU {b:Array UInt8} {i j:Nat}:(b.extract i j).toList.map UInt8.toNat=(((b.toList.map UInt8.toNat).drop i).take (j - i)):=by
 rw [Array.toList_extract,List.extract_eq_take_drop,List.map_take,List.map_drop]
theorem vX {b sep:Array UInt8} (hs:sep.toList.map UInt8.toNat=[13,10]) {i:Nat} (h:i+1 < b.size):(b.extract i (i+sep.size) == sep)=jG (b.toList.map UInt8.toNat) i:=by
 have hsz:sep.size=2:=by
  have:=congrArg List.length hs
  simpa using this
 have e:(b.extract i (i+sep.size) == sep)=((b.extract i (i+sep.size)).toList == sep.toList):=by
  by_cases q:b.extract i (i+sep.size)=sep
  ·rw [q];simp
  ·rw [beq_eq_false_iff_ne.mpr q]
   exact (beq_eq_false_iff_ne.mpr fun e=>q (Array.toList_inj.mp e)).symm
 rw [e,uO,hs,oU,hsz,show i+2 - i=2 by lia]
 unfold jG
 have hl:(b.toList.map UInt8.toNat).length=b.size:=by simp
 rw [List.drop_eq_getElem_cons (by lia),List.drop_eq_getElem_cons (by lia),List.take_succ_cons,List.take_succ_cons,List.take_zero,List.getElem?_eq_getElem (by lia),List.getElem?_eq_getElem (by lia)]
 simp [List.cons_beq_cons]
theorem lS {b sep:Array UInt8} (hs:sep.toList.map UInt8.toNat=[13,10]):∀ (k i q:Nat) (A:List Nat),i+k+1≤b.size→(q≤i∨(q=i+1∧jG (b.toList.map UInt8.toNat) i=false))→
  (((List.range k).map (·+i)).foldl (fun (acc:List Nat × Nat) (i:Nat)=>if (decide (i ≥ acc.2) && b.extract i (i+sep.size) == sep)=true then (i::acc.1,i+sep.size) else acc) (A,q)).1=(cA (b.toList.map UInt8.toNat) i k).reverse++A
 |0,i,q,A,_,_=>by simp [cA]
 |k+1,i,q,A,h,hq=>by
  have hsz:sep.size=2:=by
   have:=congrArg List.length hs
   simpa using this
  rw [fH,List.range_succ_eq_map,List.map_cons,List.map_map,List.foldl_cons]
  have e:(List.range k).map ((·+i) ∘ Nat.succ)=(List.range k).map (·+(i+1)):=by
   congr 1
   funext x
   simp only [Function.comp_apply];lia
  rw [e,Nat.zero_add]
  dsimp only
  rw [vX hs (by lia)]
  cases hm:jG (b.toList.map UInt8.toNat) i with
  |true=>
   have hqi:q≤i:=by
    rcases hq with hq | ⟨_,hq⟩
    ·exact hq
    ·rw [hm] at hq;cases hq
   rw [if_pos (by simp [hqi]),if_pos rfl]
   have h1:jG (b.toList.map UInt8.toNat) (i+1)=false:=by
    unfold jG at hm ⊢
    simp only [Bool.and_eq_true,beq_iff_eq] at hm
    rw [hm.2];rfl
   rw [lS hs k (i+1) (i+sep.size) (i::A) (by lia) (.inr ⟨by lia,h1⟩)]
   simp
  |false=>
   rw [if_neg (by simp),if_neg (by simp)]
   exact lS hs k (i+1) q A (by lia) (.inl (by lia))
theorem HJ {b sep:Array UInt8} (hs:sep.toList.map UInt8.toNat=[13,10]):Builtin.Bytes.occurrences b sep 0 b.size=cA (b.toList.map UInt8.toNat) 0 (b.size - 1):=by
 have hsz:sep.size=2:=by
  have:=congrArg List.length hs
  simpa using this
 unfold Builtin.Bytes.occurrences
 have e:b.size+1 - (0+sep.size)=b.size - 1:=by lia
 dsimp only
 rw [e]
 by_cases h0:b.size=0
 ·rw [h0];simp [cA]
 ·have:=lS (b:=b) (sep:=sep) hs (b.size - 1) 0 0 [] (by lia) (.inl (Nat.le_refl _))
  rw [this]
  simp
theorem iQ {b:Array UInt8}:∀ (ps:List Nat) (P:Array (Array UInt8)) (last:Nat),
  (((ps.foldl (fun (x:Array (Array UInt8) × Nat) p=>(x.1.push (b.extract x.2 p),p+2)) (P,last)).1.push (b.extract (ps.foldl (fun (x:Array (Array UInt8) × Nat) p=>(x.1.push (b.extract x.2 p),p+2)) (P,last)).2 b.size)).toList).map (fun p=>p.toList.map UInt8.toNat)=
   P.toList.map (fun p=>p.toList.map UInt8.toNat)++c5 (b.toList.map UInt8.toNat) last ps
 | [],P,last=>by
  simp only [List.foldl_nil,Array.toList_push,List.map_append,List.map_cons,List.map_nil,c5]
  rw [oU]
  congr 2
  rw [List.take_of_length_le (by simp)]
 |p::ps,P,last=>by
  rw [List.foldl_cons,iQ ps]
  simp only [Array.toList_push,List.map_append,List.map_cons,List.map_nil,c5]
  rw [oU,List.append_assoc]
  rfl
theorem lT {b:Array UInt8} (ps:List Nat):(Builtin.Bytes.between b 2 ps).map (fun p=>p.toList.map UInt8.toNat)=c5 (b.toList.map UInt8.toNat) 0 ps:=by
 have:=iQ (b:=b) ps #[] 0
 rw [show (#[]:Array (Array UInt8)).toList.map (fun p=>p.toList.map UInt8.toNat)=[] from rfl,List.nil_append] at this
 exact this
section
variable {prog:Program} {w:World} {A:Around} {E:Value→Shared→Prop} {s:Shared} {P:Fz} {Q:Value→Shared→Prop} {W:Params}
theorem oV {id:String} {b:Array UInt8} {t:Tok}:Builtin.Bytes.bytesLike id (.bytes b t)=pure b:=by
 unfold Builtin.Bytes.bytesLike
 rw [KBy.buffer_eq];rfl
theorem rA:∀ (l:List (Array UInt8)) {s:Shared} {Q:List Value→Shared→Prop},(∀ p∈l,p.size≤16777216)→(∀ vs tk,CRs w.params P (l.map fun p=>.byt (p.toList.map UInt8.toNat)) vs→Q vs {s with toks:=tk})→
  wpAny (model prog w) A (l.mapM (Builtin.Bytes.Kind.new .bytes)) Q E s
 | [],s,Q,_,h=>by
  rw [List.mapM_nil]
  exact wpAny_pure (h [] s.toks rfl)
 |p::l,s,Q,hz,h=>by
  rw [List.mapM_cons]
  refine wpAny_bind ?_
  unfold Builtin.Bytes.Kind.new
  refine wpAny_mkBytes ?_ (by rw [sizeLine_eq];exact hz p (by simp))
  refine wpAny_bind (rA l (fun p hp=>hz p (by simp [hp])) fun vs tk r=> ?_)
  exact wpAny_pure (h _ tk ⟨_,vs,rfl,⟨p,_,rfl,rfl⟩,r⟩)
theorem m6 {l:List Nat}:∀ {ps:List Nat} {last:Nat},∀ x∈c5 l last ps,x.length≤l.length
 | [],last,x,hx=>by
  simp only [c5,List.mem_cons,List.not_mem_nil,or_false] at hx
  subst hx;simp
 |p::ps,last,x,hx=>by
  simp only [c5,List.mem_cons] at hx
  rcases hx with rfl |hx
  ·simp;lia
  ·exact m6 x hx
theorem iR {l:List Nat} {i k:Nat}:(cA l i k).length≤k:=by
 unfold cA
 refine Nat.le_trans (List.length_filter_le _ _) (by simp)
theorem jO {l:List Nat}:∀ {ps:List Nat} {last:Nat},(c5 l last ps).length=ps.length+1
 | [],last=>rfl
 |p::ps,last=>by simp [c5,jO]
theorem y7 {b sep:Array UInt8} {t u:Tok} (hs:sep.toList.map UInt8.toNat=[13,10]) (hz:b.size≤1000000) (post:aS w.params P s (.lst ((bH (b.toList.map UInt8.toNat) []).map .byt)) Q):
  wpAny (model prog w) A (call (.builtin "bytes.split") [.bytes b t,.bytes sep u]) Q E s:=by
 refine wpAny_call_entry FY.slot_split (typeIs_bytes s b t) FY.entry_split ?_ (FY.args_split _ _)
 show wpAny _ _ (Builtin.Bytes.splitM .bytes "split" false ⟨[.bytes b t,.bytes sep u],[]⟩) _ _ s
 unfold Builtin.Bytes.splitM
 dsimp only
 have e1:∀ id:String,Builtin.Bytes.bindOptional id "split" ["sep","maxsplit"] [.bytes sep u] []=pure [some (.bytes sep u),none]:=fun id=>rfl
 rw [e1]
 refine wpAny_bind (wpAny_pure ?_)
 dsimp only
 refine wpAny_bind (wpAny_pure (wpAny_bind (wpAny_of_eq (a:=b) rfl ?_)))
 rw [oV]
 refine wpAny_bind (wpAny_pure ?_)
 have hsz:sep.size=2:=by
  have:=congrArg List.length hs
  simpa using this
 have hne:sep.isEmpty=false:=by
  cases q:sep.isEmpty with
  |false=>rfl
  |true=>rw [Array.isEmpty_iff] at q;subst q;simp at hsz
 rw [hne]
 have hm1:(-1:Int) < 0:=by lia
 simp only [Bool.false_eq_true,if_false,hm1,if_true]
 have htake:List.take (b.size+1) (Builtin.Bytes.occurrences b sep 0 b.size)=cA (b.toList.map UInt8.toNat) 0 (b.size - 1):=by
  rw [HJ hs,List.take_of_length_le]
  have:=iR (l:=b.toList.map UInt8.toNat) (i:=0) (k:=b.size - 1)
  lia
 rw [htake,hsz]
 have hw:=q9 (b.toList.map UInt8.toNat)
 rw [List.length_map,Array.length_toList] at hw
 rw [← hw] at post
 have hcount:=iR (l:=b.toList.map UInt8.toNat) (i:=0) (k:=b.size - 1)
 revert hcount post
 generalize cA (b.toList.map UInt8.toNat) 0 (b.size - 1)=ps
 intro post hcount
 by_cases q:ps.isEmpty=true
 ·rw [if_pos q]
  have:ps=[]:=List.isEmpty_iff.mp q
  subst this
  refine wpAny_bind (wpAny_rule (wpAny_bind ?_))
  unfold Builtin.Bytes.Kind.same
  rw [if_pos (by decide)]
  refine wpAny_bind (wpAny_typeOf (typeIs_bytes _ _ _) ?_)
  rw [if_pos (by decide)]
  refine wpAny_pure (wpAny_bind (wpAny_newList ?_))
  refine wpAny_pure ⟨_,rfl,opL (tk:=s.toks) post rfl ⟨_,[],rfl,⟨b,t,rfl,?_⟩,rfl⟩⟩
  simp
 ·rw [if_neg q]
  refine wpAny_bind (rA (P:=P) _ ?_ fun vs tk r=> ?_)
  ·intro p hp
   have h1:(p.toList.map UInt8.toNat)∈(Builtin.Bytes.between b 2 ps).map (fun p=>p.toList.map UInt8.toNat):=List.mem_map.mpr ⟨p,hp,rfl⟩
   rw [lT] at h1
   have:=m6 _ h1
   simp at this
   lia
  ·have hm:(Builtin.Bytes.between b 2 ps).map (fun p=>C.byt (p.toList.map UInt8.toNat))=(c5 (b.toList.map UInt8.toNat) 0 ps).map C.byt:=by
    rw [← lT,List.map_map];rfl
   rw [hm] at r
   refine wpAny_bind (wpAny_newList ?_ (by
    have:=bV r
    rw [this,List.length_map,jO,sizeLine_eq];lia))
   exact wpAny_pure ⟨_,rfl,opL (tk:=tk) post rfl r⟩
end
section
variable {prog:Program} {w:World} {A:Around} {E:Value→Shared→Prop} {s:Shared} {P:Fz} {Q:Value→Shared→Prop} {W:Params}
theorem DZ {id:String} {b:Array UInt8} {t:Tok}:Builtin.Bytes.takeBufferQuiet? id (.bytes b t) 0=pure (some (b,none)):=by
 have h:Builtin.Bytes.takeBuffer? id (.bytes b t) 0=(Builtin.Bytes.buffer? id (.bytes b t) (0 == Builtin.Bytes.fullReadOnly) >>=fun r=>pure (r.map (·,none))):=by
  unfold Builtin.Bytes.takeBuffer?
  rw [KBy.special_eq KBy.look_buffer,KBy.own_buffer]
  kernel_rfl
 unfold Builtin.Bytes.takeBufferQuiet?
 rw [h,show ((0:Int) == Builtin.Bytes.fullReadOnly)=false from rfl,KBy.buffer_eq]
 rfl
theorem uX:∀ {l:List (List Nat)} {vs:List Value},CRs W P (l.map C.byt) vs→∃ bl:List (Array UInt8 × Tok),vs=bl.map (fun p=>Value.bytes p.1 p.2)∧l=bl.map (fun p=>p.1.toList.map UInt8.toNat)
 | [],vs,r=>⟨[],r,rfl⟩
 |c::bs,vs,r=>by
  obtain ⟨u,rest,rfl,⟨b,t,rfl,e⟩,r⟩:=r
  obtain ⟨bl,rfl,rfl⟩:=uX r
  exact ⟨(b,t)::bl,rfl,congrArg (·::_) e.symm⟩
theorem y8 {bs:List C} {l:List (List Nat)} {vs:List Value} (h:j4 bs=some l) (r:CRs W P bs vs):∃ bl:List (Array UInt8 × Tok),vs=bl.map (fun p=>Value.bytes p.1 p.2)∧l=bl.map (fun p=>p.1.toList.map UInt8.toNat):=uX (fT nG h ▸ r)
noncomputable def dW (sep:List Nat):List (List Nat)→List Nat
 | []=>[]
 |p::l=>sep++(p++dW sep l)
theorem iS (sep:List Nat):∀ (x:List Nat) (l:List (List Nat)),d9 sep (x::l)=x++dW sep l
 |x,[]=>by simp [d9,dW]
 |x,y::l=>by
  rw [d9,iS sep y l,dW,List.append_assoc]
  intro h;cases h
theorem m7 (sep:Array UInt8):∀ (l:List (Array UInt8)) (k:Nat) (out:Array UInt8),0 < k→((l.zipIdx k).foldl (fun out (p,i)=>(if i > 0 then out++sep else out)++p) out).toList.map UInt8.toNat=out.toList.map UInt8.toNat++dW (sep.toList.map UInt8.toNat) (l.map fun p=>p.toList.map UInt8.toNat)
 | [],k,out,h=>by simp [dW]
 |p::l,k,out,h=>by
  rw [List.zipIdx_cons,List.foldl_cons]
  show ((l.zipIdx (k+1)).foldl _ ((if k > 0 then out++sep else out)++p)).toList.map UInt8.toNat=_
  rw [if_pos h,m7 sep l (k+1) _ (by lia),List.map_cons,dW]
  simp [List.append_assoc]
theorem vY (sep:Array UInt8) (l:List (Array UInt8)):(Builtin.Bytes.joined sep l).toList.map UInt8.toNat=d9 (sep.toList.map UInt8.toNat) (l.map fun p=>p.toList.map UInt8.toNat):=by
 unfold Builtin.Bytes.joined
 cases l with
 |nil=>rfl
 |cons p l=>
  rw [List.zipIdx_cons,List.foldl_cons]
  show ((l.zipIdx 1).foldl _ ((if 0 > 0 then #[]++sep else #[])++p)).toList.map UInt8.toNat=_
  rw [m7 sep l 1 _ (by lia),List.map_cons,iS]
  simp
theorem lU (sep:List Nat):∀ l:List (List Nat),(dW sep l).length=cQ l+sep.length * l.length
 | []=>by simp [dW,cQ]
 |p::l=>by
  simp only [dW,List.length_append,lU sep l,cQ,List.length_cons,Nat.mul_succ];lia
theorem vZ (sep:List Nat) (l:List (List Nat)):(d9 sep l).length≤cQ l+sep.length * l.length:=by
 cases l with
 |nil=>simp [d9]
 |cons x l=>
  rw [iS,List.length_append,lU]
  simp only [cQ,List.length_cons,Nat.mul_succ];lia
theorem iT:∀ (bl:List (Array UInt8 × Tok)) (k:Nat),(bl.map (·.1)).foldl (fun x y=>x+y.size) k=k+cQ (bl.map fun p=>p.1.toList.map UInt8.toNat)
 | [],k=>rfl
 |p::bl,k=>by
  simp only [List.map_cons,List.foldl_cons,cQ]
  rw [iT bl,List.length_map,Array.length_toList];lia
theorem jP {keep:List Value} {Q:Unit→Shared→Prop}:∀ (bl:List (Array UInt8 × Tok)),Q () s→wpAny (model prog w) A (Builtin.Bytes.joinLetGo (bl.map fun p=>(Value.bytes p.1 p.2,none)) keep) Q E s
 | [],h=>by
  unfold Builtin.Bytes.joinLetGo
  exact wpAny_pure h
 |p::bl,h=>by
  rw [List.map_cons]
  unfold Builtin.Bytes.joinLetGo
  exact wpAny_bind (wpAny_letGo (jP bl h))
theorem m8:∀ (bl:List (Array UInt8 × Tok)),((bl.map fun p=>(Value.bytes p.1 p.2,(none:Option Value))).any (·.1.onHeap))=false
 | []=>rfl
 |p::bl=>by
  rw [List.map_cons,List.any_cons,m8 bl];rfl
theorem HK {β:Type} {ws:Array Value} {R:β→Prop} {f:Value→β} {d:β} (h1:∀ v,ws= #[v]→R (f v)) (h2:R d):R (match (generalizing:=false) ws with
  | #[v]=>f v
  |_=>d):=by
 obtain ⟨_ | ⟨v,_ | ⟨_,_⟩⟩⟩:=ws
 ·exact h2
 ·exact h1 v rfl
 ·exact h2
theorem D0 {β:Type} {m:Nat} (st:Nat→β) {turn:Nat→β→Sem (ForInStep β)} {fin:β→Sem PySem.Fin} {R:PySem.Fin→Shared→Prop}
  (ht:∀ k,k < m→∀ q:ForInStep β→Shared→Prop,q (.yield (st (k+1))) s→wpAny (model prog w) A (turn k (st k)) q E s)
  (hf:wpAny (model prog w) A (fin (st m)) R E s):wpAny (model prog w) A (forIn [0:m] (st 0) turn >>=fin) R E s:=by
 rw [Std.Legacy.Range.forIn_eq_forIn_range',show Std.Legacy.Range.size [:m]=m by simp [Std.Legacy.Range.size]]
 refine wpAny_bind (wpAny_forIn_list _ (fun rest b s'=>s'=s∧∃ k,k≤m∧rest=List.range' k (m - k)∧b=st k) _ ?_ ?_ _ _ ⟨rfl,0,Nat.zero_le _,rfl,rfl⟩)
 ·rintro x rest _ _ ⟨rfl,k,hk,hr,rfl⟩
  have hk':k < m:=by
   rcases Nat.lt_or_ge k m with q |q
   ·exact q
   ·rw [show m - k=0 by lia] at hr;cases hr
  rw [show m - k=(m - (k+1))+1 by lia,List.range'_succ] at hr
  obtain ⟨rfl,rfl⟩:=List.cons.inj hr
  exact ht _ hk' _ ⟨rfl,_,hk',rfl,rfl⟩
 ·rintro _ _ ⟨rfl,k,hk,hr,rfl⟩
  have hk':k=m:=by
   have:=congrArg List.length hr
   simp at this;lia
  exact hk' ▸ hf
theorem D1 {sep:Array UInt8} {t:Tok} {a:Addr} {o:Obj} {ws:Array Value} {n:Nat} (g:s.heap.get? a=some o) (hc:o.cls= .type "list") (hd:o.data= .seq ws n) {bs:List C} {l:List (List Nat)} (hb:j4 bs=some l) (r:CRs w.params P bs ws.toList)
  (hz:cQ l+sep.size * l.length≤lim) (inh:Inh P s.heap) (post:aS w.params P s (.byt (d9 (sep.toList.map UInt8.toNat) l)) Q):
  wpAny (model prog w) A (call (.builtin "bytes.join") [.bytes sep t,.ref a]) Q E s:=by
 refine wpAny_call_entry FY.slot_join (typeIs_bytes s sep t) FY.entry_join ?_ (FY.args_join _ _)
 show wpAny _ _ (Builtin.Bytes.joinM .bytes ⟨[.bytes sep t,.ref a],[]⟩) _ _ s
 unfold Builtin.Bytes.joinM
 refine wpAny_bind (wpAny_of_eq (show selfAndOne _ _=pure (.bytes sep t,.ref a) from rfl) ?_)
 unfold Builtin.Bytes.joinItems
 refine wpAny_bind (wpAny_bind (wpAny_typeOf (T:="list") ⟨o,g,hc⟩ ?_))
 refine wpAny_ite_true rfl (wpAny_pure ?_)
 refine wpAny_bind (wpAny_seqItems g hd ?_)
 refine wpAny_ite_true rfl ?_
 obtain ⟨bl,hbl,rfl⟩:=y8 hb r
 refine HK (R:=fun c=>wpAny (model prog w) A.in1 c (fun r s'=>∃ v,r=PySem.Fin.done (.ret v)∧Q v s') E s) (fun v hv=> ?_) ?_
 ·subst hv
  obtain _ | ⟨p,_ | ⟨_,_⟩⟩:=bl
  ·cases hbl
  ·cases hbl
   refine wpAny_bind (wpAny_typeOf (typeIs_bytes _ _ _) ?_)
   refine wpAny_ite_true rfl ?_
   exact wpAny_bind (wpAny_rule (wpAny_bind (wpAny_pure (wpAny_pure ⟨_,rfl,opY post _ _⟩))))
  ·cases hbl
 ·have hw:ws=(bl.map fun p=>Value.bytes p.1 p.2).toArray:=by rw [← hbl]
  subst hw
  have hm:(bl.map fun p=>Value.bytes p.1 p.2).toArray.size=bl.length:=by simp
  rw [hm]
  refine D0 (m:=bl.length) (fun k=>(((bl.take k).map (·.1)).toArray,(bl.take k).map fun p=>(Value.bytes p.1 p.2,(none:Option Value)))) (fun k hk q h=> ?_) ?_
  ·have hx:(bl.map fun p=>Value.bytes p.1 p.2).toArray.getD k .none= .bytes (bl[k]).1 (bl[k]).2:=by
    rw [Array.getD_eq_getD_getElem?]
    simp [hk]
   have ht:bl.take (k+1)=bl.take k++[bl[k]]:=List.take_succ_eq_append_getElem hk
   rw [ht] at h
   simp only [List.map_append,List.map_cons,List.map_nil] at h
   refine wpAny_bind (wpAny_seqItems g hd ?_)
   refine wpAny_ite_false (by rw [m8];rfl) ?_
   rw [hx]
   refine wpAny_bind (wpAny_holding (wpAny_of_eq DZ ?_))
   refine wpAny_bind (wpAny_seqItems g hd ?_)
   refine wpAny_ite_false (by simp) ?_
   refine wpAny_pure ?_
   rw [show (((bl.take k).map (·.1)).toArray.push (bl[k]).1)=((bl.take k).map (·.1)++[(bl[k]).1]).toArray by simp]
   exact h
  ·rw [List.take_length]
   refine wpAny_bind (wpAny_of_eq (show Builtin.Bytes.payload (.bytes sep t)=pure sep from rfl) ?_)
   have hb:=vY sep (bl.map (·.1))
   have hlen:=congrArg List.length hb
   have hj:=vZ (sep.toList.map UInt8.toNat) ((bl.map (·.1)).map fun p=>p.toList.map UInt8.toNat)
   have hlim:lim=1000000:=rfl
   have hss:=sizeLine_eq
   rw [List.map_map] at hb hlen hj
   have hmul:sep.size * (bl.length - 1)≤sep.size * bl.length:=Nat.mul_le_mul_left _ (by lia)
   simp only [List.length_map,Array.length_toList] at hlen hj hz
   have hz':cQ (bl.map fun p=>p.1.toList.map UInt8.toNat)+sep.size * bl.length≤lim:=hz
   have hj':(d9 (sep.toList.map UInt8.toNat) (bl.map ((fun p=>p.toList.map UInt8.toNat) ∘ fun x=>x.1))).length≤cQ (bl.map fun p=>p.1.toList.map UInt8.toNat)+sep.size * bl.length:=hj
   refine wpAny_ite_false (decide_eq_false ?_) ?_
   ·rw [← Array.foldl_toList,iT]
    unfold Builtin.Bytes.tooLong
    simp only [List.size_toArray,List.length_map,decide_eq_true_eq,gt_iff_lt,Nat.not_lt]
    lia
   refine wpAny_bind (wpAny_mkBytes ?_ (by show (Builtin.Bytes.joined sep (bl.map (·.1))).size≤sizeLine;lia))
   refine wpAny_bind (wpAny_holding (wpAny_point ?_))
   refine wpAny_bind (jP bl ?_)
   exact wpAny_pure ⟨_,rfl,post _ _ _ (fun _ _ e=>e) (Nat.le_refl _) ⟨_,_,rfl,hb⟩⟩
end
section
variable {prog:Program} {w:World} {A:Around} {E:Value→Shared→Prop} {s:Shared} {P:Fz} {Q:Value→Shared→Prop} {W:Params}
theorem lV {c:Nat}:∀ (l:List Nat) (k:Nat),(∀ v,v < l.length→l[v]?≠some c)→cZ c l k=none
 | [],k,h=>rfl
 |x::l,k,h=>by
  have h0:=h 0 (by simp)
  have:Nat.beq x c=false:=by
   cases q:Nat.beq x c with
   |false=>rfl
   |true=>exact absurd (by rw [Nat.eq_of_beq_eq_true q];rfl) h0
  simp only [cZ,this]
  exact lV l (k+1) fun v hv=>by
   have:=h (v+1) (by simp;lia)
   simpa using this
theorem lW {c:Nat}:∀ (l:List Nat) (k i:Nat),l[i]? =some c→(∀ v,v < i→l[v]?≠some c)→cZ c l k=some (k+i)
 | [],k,i,h,_=>by simp at h
 |x::l,k,i,h,hn=>by
  cases i with
  |zero=>
   simp at h
   subst h
   simp [cZ,Nat.beq_refl]
  |succ i=>
   have h0:=hn 0 (by lia)
   have:Nat.beq x c=false:=by
    cases q:Nat.beq x c with
    |false=>rfl
    |true=>exact absurd (by rw [Nat.eq_of_beq_eq_true q];rfl) h0
   simp only [cZ,this]
   rw [lW l (k+1) i (by simpa using h) fun v hv=>by
    have:=hn (v+1) (by lia)
    simpa using this]
   congr 1;lia
theorem y9 {x:Str} {c:Nat}:(match Builtin.Str.occurrences x ⟨#[c]⟩ 0 x.length 1 with |i::_=>(i:Int) | []=> -1)=fW x.cps.toList c 0 x.cps.toList.length:=by
 have hl:x.length=x.cps.toList.length:=rfl
 unfold fW
 rw [List.take_length,List.drop_zero]
 rcases StrLaws.occ_head_from x ⟨#[c]⟩ 0 1 (Nat.le_refl 1) with ⟨h0,hn⟩ | ⟨k,r,h0,hlo,hk,hn⟩
 ·rw [h0,lV _ _ fun v hv he=>hn v (Nat.zero_le _) ((StrLaws.subAt_one x c v).mpr he)]
 ·rw [h0,lW _ 0 k ((StrLaws.subAt_one x c k).mp hk) fun v hv he=>hn v (Nat.zero_le _) hv ((StrLaws.subAt_one x c v).mpr he)]
  simp
theorem AA {x:Str} {c:Nat} {t u:Tok} (post:aS w.params P s (.int (fW x.cps.toList c 0 x.cps.toList.length)) Q):wpAny (model prog w) A (call (.builtin "str.find") [.str x t,.str ⟨#[c]⟩ u]) Q E s:=
 call_gives F.slot_str_find (typeIs_str _ _ _) F.entry_str_find (F.args_str_find_2 _ _) ((congrArg (Gives _) (congrArg Made.int y9)).mp (gives_str_find x ⟨#[c]⟩ t u)) (opI post _ _)
theorem rB (sep:Str):∀ (l:List Str) (out:Array Nat),(l.foldl (fun acc p=>acc++sep.cps++p.cps) out).toList=out.toList++dW sep.cps.toList (l.map fun p=>p.cps.toList)
 | [],out=>by simp [dW]
 |p::l,out=>by
  rw [List.foldl_cons,rB sep l,List.map_cons,dW]
  simp [List.append_assoc]
theorem AB (sep:Str) (l:List Str):(Txt.join sep l).cps.toList=d9 sep.cps.toList (l.map fun p=>p.cps.toList):=by
 unfold Txt.join Builtin.Str.glued
 cases l with
 |nil=>rfl
 |cons p l=>
  rw [List.map_cons,iS]
  exact rB sep l p.cps
theorem uY:∀ (ns:List (List Nat)),((ns.map fun l=>(⟨l.toArray⟩:Str)).map (·.length)).sum=cQ ns
 | []=>rfl
 |x::ns=>by
  have:=uY ns
  rw [List.map_cons,List.map_cons,List.sum_cons,this];rfl
theorem AC {x:Str} {t:Tok} {a:Addr} {o:Obj} {ws:Array Value} {n:Nat} (g:s.heap.get? a=some o) (hc:o.cls= .type "list") (hd:o.data= .seq ws n) {bs:List C} {ns:List (List Nat)} (hb:eY bs=some ns) (r:CRs w.params P bs ws.toList)
  (hz:cQ ns+x.cps.toList.length * ns.length≤lim) (post:aS w.params P s (.str (d9 x.cps.toList ns)) Q):
  wpAny (model prog w) A (call (.builtin "str.join") [.str x t,.ref a]) Q E s:=by
 refine join_list (ys:=ns.map fun l=>⟨l.toArray⟩) ⟨o,g,hc,n,hd⟩ (lM hb r) ?_ fun t' k=>post _ _ _ (fun _ _ e=>e) (Nat.le_refl _) ⟨_,_,rfl,?_⟩
 ·rw [uY,List.length_map,Nat.mul_comm]
  have:lim=1000000:=rfl
  have hl:x.length=x.cps.toList.length:=rfl
  rw [hl];lia
 ·rw [AB,List.map_map]
  congr 1
  rw [show ((fun p:Str=>p.cps.toList) ∘ fun l:List Nat=>(⟨l.toArray⟩:Str))=id by funext l;simp,List.map_id]
theorem D2 {a:Addr} {es:Array DictEntry} {n:Nat} {l:List (List Nat × C)} {y:Str} {t:Tok} {d:C} {v:Value} (g:s.heap.get? a=some (dO es n)) (ne:a≠1) (r:CRd w.params P l es.toList) (hd:CR w.params P d v)
  (post:aS w.params P s ((lkS l y.cps.toList).getD d) Q):wpAny (model prog w) A (call (.builtin "dict.get") [.ref a,.str y t,v]) Q E s:=by
 have hm:=yW (prog:=prog) (w:=w) (s:=s) g r
 have hf:=yX r y
 refine call_meetsIn F.slot_dict_get hm.typeIs F.entry_dict_get (F.args_dict_get_3 _ _ _) (meets_dict_get_default (PySem.strKind prog w) a (k:=y) (by show (y == y)=true;simp) (beq_eq_false_iff_ne.mpr ne) v) ⟨_,hm,?_⟩
 refine (?_:Q ((findBy Value.isStrOf es y).getD v) _)
 rcases q:lkS l y.cps.toList with _ |c <;> rw [q] at hf post
 ·rw [hf.gone]
  exact opC post hd
 ·obtain ⟨u,hu,cr⟩:=hf.val rfl
  rw [hu]
  exact opC post cr
theorem HL {a ws n u} (hz:ws.size≤sizeLine) (g:s.heap.get? a=some ⟨.type "list",none,.seq ws n,#[]⟩)
  (post:∀ h' n' tk,h'.get? a=some ⟨.type "list",none,.seq (ws.push u) n',#[]⟩→(∀ b,b≠a→h'.get? b=s.heap.get? b)→h'.objs.size=s.heap.objs.size→Q .none {s with heap:=h',toks:=tk}):
  wpAny (model prog w) A (call (.builtin "list.append") [.ref a,u]) Q E s:=by
 refine wpAny_list_append_plain ⟨n,g⟩ (fun h' hp sb=> ?_) hz
 obtain ⟨n',hp⟩:=hp
 exact post h' n' _ hp (fun b hb=>sb.2 b hb) sb.1
theorem v0 (l:Addr) (items:Array Value) (n:Nat) (b:Addr) (d2:Option Addr) (sl2:Array (Option Value)) (items2:Array Value) (n2:Nat) (hc0:¬(!items.isEmpty && Builtin.List.listTooLong (items.size+items2.size))=true) (hc1:items.size≤sizeLine) (hs2:items.size+items2.size≤sizeLine+1):
  Meets (Builtin.«list.extend» ⟨[.ref l,.ref b],[]⟩) (fun _ R s=>s.heap.get? l=some {cls:=.type "list",dict:=none,data:=.seq items n,slots:= #[]}∧s.heap.get? b=some {cls:=.type "list",dict:=d2,data:=.seq items2 n2,slots:=sl2}∧R (.ok (.ret Value.none)) {s with heap:=s.heap.update l (Obj.mapSeq fun x=>x++items2),toks:=s.toks}):=
 .of_wp fun prog w A R s h=>by
  obtain ⟨hp,g,d,tk,os⟩:=s;obtain ⟨hl,hb,h⟩:=h;have f1:=PySem.AutoSeq1.idx_int;have f2:=PySem.AutoSeq1.sub_tuple_tuple;have f3:=PySem.AutoSeq1.sub_list_list;have f4:=PySem.AutoSeq1.sub_tuple_list;have f5:=PySem.AutoSeq1.sub_list_tuple;
  have hz':(items++items2).size≤sizeLine+1:=by rw [Array.size_append];exact hs2
  wp_walk using (wpAny_updateSeq hl rfl (hz:=hc1) (_hz':=hz')),PySem.AutoSeq1.wpAny_loadPart' hl,PySem.AutoSeq1.wpAny_loadPart' hb;exact ⟨_,rfl,h⟩
theorem HM {a ws n b ws' o n'} (hz:ws.size+ws'.size≤lim) (g:s.heap.get? a=some ⟨.type "list",none,.seq ws n,#[]⟩) (ne:a≠b) (gb:s.heap.get? b=some o) (hc:o.cls= .type "list") (hd:o.data= .seq ws' n')
  (post:∀ h' n' tk,h'.get? a=some ⟨.type "list",none,.seq (ws++ws') n',#[]⟩→(∀ b,b≠a→h'.get? b=s.heap.get? b)→h'.objs.size=s.heap.objs.size→Q .none {s with heap:=h',toks:=tk}):
  wpAny (model prog w) A (call (.builtin "list.extend") [.ref a,.ref b]) Q E s:=by
 obtain ⟨oc,od,odt,osl⟩:=o
 dsimp only at hc hd
 subst hc;subst hd
 have hl:lim=1000000:=rfl
 have hs:=sizeLine_eq
 refine call_meets F.slot_list_extend (T:="list") ⟨_,g,rfl⟩ F.entry_list_extend (F.args_list_extend_2 _ _) (v0 a ws n b od osl ws' n' ?_ (by lia) (by lia)) ⟨g,gb,?_⟩
 ·unfold Builtin.List.listTooLong
  simp only [Bool.and_eq_true,decide_eq_true_eq,not_and,Nat.not_lt]
  intro _;lia
 ·have hu:=Heap.get?_update_self (Obj.mapSeq fun x=>x++ws') g rfl
  exact post _ _ s.toks hu (fun b hb=>Heap.get?_update_other _ _ (Ne.symm hb)) (Heap.size_update ..)
theorem AD {name:Str} {id:String} {x:Array UInt8} {t:Tok} {Q:Value × List Value→Shared→Prop} {pl:Sem Bool} (slot:Slot "bytes" name id) (hty:typeOf (.builtin id)=pure (.type "method_descriptor")) (q:Q (.builtin id,[.bytes x t]) s):wpAny (model prog w) A (getMethod (.bytes x t) name pl) Q E s:=
 getMethod_builtin (typeIs_bytes _ _ _) FB.plainAttrs_bytes slot hty (fun _ e=>nomatch e) q
theorem K3 {name:Str} {id:String} {x:Str} {t:Tok} {Q:Value × List Value→Shared→Prop} {pl:Sem Bool} (slot:Slot "str" name id) (hty:typeOf (.builtin id)=pure (.type "method_descriptor")) (q:Q (.builtin id,[.str x t]) s):wpAny (model prog w) A (getMethod (.str x t) name pl) Q E s:=
 getMethod_builtin (typeIs_str _ _ _) F.plainAttrs_str slot hty (fun _ e=>nomatch e) q
theorem NL {name:Str} {id:String} {a:Addr} {es:Array DictEntry} {n:Nat} (g:s.heap.get? a=some (dO es n)) {Q:Value × List Value→Shared→Prop} {pl:Sem Bool} (slot:Slot "dict" name id) (hty:typeOf (.builtin id)=pure (.type "method_descriptor")) (q:Q (.builtin id,[.ref a]) s):wpAny (model prog w) A (getMethod (.ref a) name pl) Q E s:=
 getMethod_builtin (T:="dict") ⟨_,g,rfl⟩ F.plainAttrs_dict slot hty (fun a' e=>by cases e;exact ⟨_,g,rfl⟩) q
theorem K4 {name:Str} {id:String} {a:Addr} {ws:Array Value} {n:Nat} (g:s.heap.get? a=some ⟨.type "list",none,.seq ws n,#[]⟩) {Q:Value × List Value→Shared→Prop} {pl:Sem Bool} (slot:Slot "list" name id) (hty:typeOf (.builtin id)=pure (.type "method_descriptor")) (q:Q (.builtin id,[.ref a]) s):wpAny (model prog w) A (getMethod (.ref a) name pl) Q E s:=
 getMethod_builtin (T:="list") ⟨_,g,rfl⟩ F.plainAttrs_list slot hty (fun a' e=>by cases e;exact ⟨_,g,rfl⟩) q
theorem AE {x:Array UInt8} {t:Tok} {Q:Value × List Value→Shared→Prop} {pl:Sem Bool} (q:Q (.builtin (Bm.bfind).id,[.bytes x t]) s):wpAny (model prog w) A (getMethod (.bytes x t) (dec cB) pl) Q E s:=by
 rw [show Bm.bfind.id="bytes.find" by kernel_rfl] at q
 rw [show dec cB=("find":Str) by kernel_rfl]
 exact AD (name:="find") (id:="bytes.find") FY.slot_find FY.type_find q
theorem bm_bfind {l}:dD (.byt l) cB=some .bfind:=by
 have h0:Nat.beq cB cB=true:=by decide
 unfold dD
 rw [h0]
theorem sU {x:Array UInt8} {t:Tok} {Q:Value × List Value→Shared→Prop} {pl:Sem Bool} (q:Q (.builtin (Bm.brstrip).id,[.bytes x t]) s):wpAny (model prog w) A (getMethod (.bytes x t) (dec cT) pl) Q E s:=by
 rw [show Bm.brstrip.id="bytes.rstrip" by kernel_rfl] at q
 rw [show dec cT=("rstrip":Str) by kernel_rfl]
 exact AD (name:="rstrip") (id:="bytes.rstrip") FY.slot_rstrip FY.type_rstrip q
theorem bm_brstrip {l}:dD (.byt l) cT=some .brstrip:=by
 have h0:Nat.beq cT cB=false:=by decide
 have h1:Nat.beq cT cT=true:=by decide
 unfold dD
 rw [h0,h1]
theorem v3 {x:Array UInt8} {t:Tok} {Q:Value × List Value→Shared→Prop} {pl:Sem Bool} (q:Q (.builtin (Bm.bstrip).id,[.bytes x t]) s):wpAny (model prog w) A (getMethod (.bytes x t) (dec dE) pl) Q E s:=by
 rw [show Bm.bstrip.id="bytes.strip" by kernel_rfl] at q
 rw [show dec dE=("strip":Str) by kernel_rfl]
 exact AD (name:="strip") (id:="bytes.strip") FY.slot_strip FY.type_strip q
theorem bm_bstrip {l}:dD (.byt l) dE=some .bstrip:=by
 have h0:Nat.beq dE cB=false:=by decide
 have h1:Nat.beq dE cT=false:=by decide
 have h2:Nat.beq dE dE=true:=by decide
 unfold dD
 rw [h0,h1,h2]
theorem v4 {x:Array UInt8} {t:Tok} {Q:Value × List Value→Shared→Prop} {pl:Sem Bool} (q:Q (.builtin (Bm.bsplit).id,[.bytes x t]) s):wpAny (model prog w) A (getMethod (.bytes x t) (dec dG) pl) Q E s:=by
 rw [show Bm.bsplit.id="bytes.split" by kernel_rfl] at q
 rw [show dec dG=("split":Str) by kernel_rfl]
 exact AD (name:="split") (id:="bytes.split") FY.slot_split FY.type_split q
theorem bm_bsplit {l}:dD (.byt l) dG=some .bsplit:=by
 have h0:Nat.beq dG cB=false:=by decide
 have h1:Nat.beq dG cT=false:=by decide
 have h2:Nat.beq dG dE=false:=by decide
 have h3:Nat.beq dG dG=true:=by decide
 unfold dD
 rw [h0,h1,h2,h3]
theorem AF {x:Array UInt8} {t:Tok} {Q:Value × List Value→Shared→Prop} {pl:Sem Bool} (q:Q (.builtin (Bm.bjoin).id,[.bytes x t]) s):wpAny (model prog w) A (getMethod (.bytes x t) (dec b4) pl) Q E s:=by
 rw [show Bm.bjoin.id="bytes.join" by kernel_rfl] at q
 rw [show dec b4=("join":Str) by kernel_rfl]
 exact AD (name:="join") (id:="bytes.join") FY.slot_join FY.type_join q
theorem bm_bjoin {l}:dD (.byt l) b4=some .bjoin:=by
 have h0:Nat.beq b4 cB=false:=by decide
 have h1:Nat.beq b4 cT=false:=by decide
 have h2:Nat.beq b4 dE=false:=by decide
 have h3:Nat.beq b4 dG=false:=by decide
 have h4:Nat.beq b4 b4=true:=by decide
 unfold dD
 rw [h0,h1,h2,h3,h4]
theorem AG {x:Str} {t:Tok} {Q:Value × List Value→Shared→Prop} {pl:Sem Bool} (q:Q (.builtin (Bm.sjoin).id,[.str x t]) s):wpAny (model prog w) A (getMethod (.str x t) (dec b4) pl) Q E s:=by
 rw [show Bm.sjoin.id="str.join" by kernel_rfl] at q
 rw [show dec b4=("join":Str) by kernel_rfl]
 exact K3 (name:="join") (id:="str.join") F.slot_str_join F.type_str_join q
theorem bm_sjoin {l}:dD (.str l) b4=some .sjoin:=by
 have h0:Nat.beq b4 b4=true:=by decide
 unfold dD
 rw [h0]
theorem AH {x:Str} {t:Tok} {Q:Value × List Value→Shared→Prop} {pl:Sem Bool} (q:Q (.builtin (Bm.sfind).id,[.str x t]) s):wpAny (model prog w) A (getMethod (.str x t) (dec cB) pl) Q E s:=by
 rw [show Bm.sfind.id="str.find" by kernel_rfl] at q
 rw [show dec cB=("find":Str) by kernel_rfl]
 exact K3 (name:="find") (id:="str.find") F.slot_str_find F.type_str_find q
theorem bm_sfind {l}:dD (.str l) cB=some .sfind:=by
 have h0:Nat.beq cB b4=false:=by decide
 have h1:Nat.beq cB cB=true:=by decide
 unfold dD
 rw [h0,h1]
theorem D3 {a:Addr} {es:Array DictEntry} {n:Nat} (g:s.heap.get? a=some (dO es n)) {Q:Value × List Value→Shared→Prop} {pl:Sem Bool} (q:Q (.builtin (Bm.dget).id,[.ref a]) s):wpAny (model prog w) A (getMethod (.ref a) (dec j8) pl) Q E s:=by
 rw [show Bm.dget.id="dict.get" by kernel_rfl] at q
 rw [show dec j8=("get":Str) by kernel_rfl]
 exact NL (name:="get") (id:="dict.get") g F.slot_dict_get F.type_dict_get q
theorem bm_dget {l}:dD (.dcs l) j8=some .dget:=by
 have h0:Nat.beq j8 j8=true:=by decide
 unfold dD
 rw [h0]
theorem sV {a:Addr} {ws:Array Value} {n:Nat} (g:s.heap.get? a=some ⟨.type "list",none,.seq ws n,#[]⟩) {Q:Value × List Value→Shared→Prop} {pl:Sem Bool} (q:Q (.builtin (Bm.lappend).id,[.ref a]) s):wpAny (model prog w) A (getMethod (.ref a) (dec c6) pl) Q E s:=by
 rw [show Bm.lappend.id="list.append" by kernel_rfl] at q
 rw [show dec c6=("append":Str) by kernel_rfl]
 exact K4 (name:="append") (id:="list.append") g F.slot_list_append F.type_list_append q
theorem bm_lappend {l}:dD (.lst l) c6=some .lappend:=by
 have h0:Nat.beq c6 c6=true:=by decide
 unfold dD
 rw [h0]
theorem sW {a:Addr} {ws:Array Value} {n:Nat} (g:s.heap.get? a=some ⟨.type "list",none,.seq ws n,#[]⟩) {Q:Value × List Value→Shared→Prop} {pl:Sem Bool} (q:Q (.builtin (Bm.lextend).id,[.ref a]) s):wpAny (model prog w) A (getMethod (.ref a) (dec d5) pl) Q E s:=by
 rw [show Bm.lextend.id="list.extend" by kernel_rfl] at q
 rw [show dec d5=("extend":Str) by kernel_rfl]
 exact K4 (name:="extend") (id:="list.extend") g F.slot_list_extend F.type_list_extend q
theorem bm_lextend {l}:dD (.lst l) d5=some .lextend:=by
 have h0:Nat.beq d5 c6=false:=by decide
 have h1:Nat.beq d5 d5=true:=by decide
 unfold dD
 rw [h0,h1]
theorem HN {o m b} (h:dD o m=some b) (nl:∀ l,o≠.lst l) {Q:Value × List Value→Shared→Prop} {u:Value} {pl:Sem Bool} (inh:Inh P s.heap) (t:TopR w.params P s.heap o u) (q:Q (.builtin b.id,[u]) s):wpAny (model prog w) A (getMethod u (dec m) pl) Q E s:=by
 cases o <;> first | (cases h;done) |skip
 case lst l=>exact absurd rfl (nl l)
 case byt l=>
  obtain ⟨x,t,rfl,_⟩:=t
  cases e_find:Nat.beq m cB with
  |true=>
   have hm:=Nat.eq_of_beq_eq_true e_find
   clear e_find
   subst hm
   have hb:=(Option.some.inj (bm_bfind.symm.trans h)).symm
   subst hb
   exact AE q
  |false=>
  cases e_rstrip:Nat.beq m cT with
  |true=>
   have hm:=Nat.eq_of_beq_eq_true e_rstrip
   clear e_find e_rstrip
   subst hm
   have hb:=(Option.some.inj (bm_brstrip.symm.trans h)).symm
   subst hb
   exact sU q
  |false=>
  cases e_strip:Nat.beq m dE with
  |true=>
   have hm:=Nat.eq_of_beq_eq_true e_strip
   clear e_find e_rstrip e_strip
   subst hm
   have hb:=(Option.some.inj (bm_bstrip.symm.trans h)).symm
   subst hb
   exact v3 q
  |false=>
  cases e_split:Nat.beq m dG with
  |true=>
   have hm:=Nat.eq_of_beq_eq_true e_split
   clear e_find e_rstrip e_strip e_split
   subst hm
   have hb:=(Option.some.inj (bm_bsplit.symm.trans h)).symm
   subst hb
   exact v4 q
  |false=>
  cases eH:Nat.beq m b4 with
  |true=>
   have hm:=Nat.eq_of_beq_eq_true eH
   clear e_find e_rstrip e_strip e_split eH
   subst hm
   have hb:=(Option.some.inj (bm_bjoin.symm.trans h)).symm
   subst hb
   exact AF q
  |false=>
  unfold dD at h;simp only [e_find,e_rstrip,e_strip,e_split,eH,reduceCtorEq] at h
 case str l=>
  obtain ⟨x,t,rfl,_⟩:=t
  cases eH:Nat.beq m b4 with
  |true=>
   have hm:=Nat.eq_of_beq_eq_true eH
   clear eH
   subst hm
   have hb:=(Option.some.inj (bm_sjoin.symm.trans h)).symm
   subst hb
   exact AG q
  |false=>
  cases e_find:Nat.beq m cB with
  |true=>
   have hm:=Nat.eq_of_beq_eq_true e_find
   clear eH e_find
   subst hm
   have hb:=(Option.some.inj (bm_sfind.symm.trans h)).symm
   subst hb
   exact AH q
  |false=>
  unfold dD at h;simp only [eH,e_find,reduceCtorEq] at h
 case dcs l=>
  obtain ⟨a,es,n,rfl,g,_⟩:=t
  cases e_get:Nat.beq m j8 with
  |true=>
   have hm:=Nat.eq_of_beq_eq_true e_get
   clear e_get
   subst hm
   have hb:=(Option.some.inj (bm_dget.symm.trans h)).symm
   subst hb
   exact D3 g q
  |false=>
  unfold dD at h;simp only [e_get,reduceCtorEq] at h
theorem HO {l m b} (h:dD (.lst l) m=some b) {Q:Value × List Value→Shared→Prop} {a ws n} {pl:Sem Bool} (g:s.heap.get? a=some ⟨.type "list",none,.seq ws n,#[]⟩) (q:Q (.builtin b.id,[.ref a]) s):wpAny (model prog w) A (getMethod (.ref a) (dec m) pl) Q E s:=by
 cases e_append:Nat.beq m c6 with
 |true=>
  have hm:=Nat.eq_of_beq_eq_true e_append
  clear e_append
  subst hm
  have hb:=(Option.some.inj (bm_lappend.symm.trans h)).symm
  subst hb
  exact sV g q
 |false=>
 cases e_extend:Nat.beq m d5 with
 |true=>
  have hm:=Nat.eq_of_beq_eq_true e_extend
  clear e_append e_extend
  subst hm
  have hb:=(Option.some.inj (bm_lextend.symm.trans h)).symm
  subst hb
  exact sW g q
 |false=>
 unfold dD at h;simp only [e_append,e_extend,reduceCtorEq] at h
end
section
variable {prog:Program} {w:World} {A:Around} {E:Value→Shared→Prop} {s:Shared} {P:Fz} {Q:Value→Shared→Prop} {W:Params}
theorem AI {b:Array UInt8} {c:Nat} (h:b.toList.map UInt8.toNat=[c]):∃ x:UInt8,b= #[x]∧x.toNat=c:=by
 obtain ⟨l⟩:=b
 cases l with
 |nil=>cases h
 |cons x l=>
  cases l with
  |nil=>simp at h;exact ⟨x,rfl,h⟩
  |cons _ _=>simp at h
theorem uZ {x:Str} {c:Nat} (h:x.cps.toList=[c]):x=⟨#[c]⟩:=by
 obtain ⟨⟨l⟩⟩:=x
 have:l=[c]:=h
 subst this;rfl
theorem dK {b:Array UInt8}:(b.toList.map UInt8.toNat).length=b.size:=by rw [List.length_map,Array.length_toList]
theorem sX {α:Type} {l:List α} (h:okL l=true):l.length≤1000000:=okL_le h
theorem oW {b sub:Array UInt8} {t u:Tok} {rest:List Value} {lo hi:Option Int} {c:UInt8} (hs:sub= #[c]) (hr:rest.length≤2) (h1:Builtin.Bytes.bound? rest[0]? =pure lo) (h2:Builtin.Bytes.bound? rest[1]? =pure hi) (ha:argsOk "bytes.find" ⟨.bytes b t:: .bytes sub u::rest,[]⟩)
  (post:aS w.params P s (.int (fW (b.toList.map UInt8.toNat) c.toNat (lQ b.size lo 0) (lQ b.size hi b.size))) Q):wpAny (model prog w) A (call (.builtin "bytes.find") (.bytes b t:: .bytes sub u::rest)) Q E s:=
 call_gives FY.slot_find (typeIs_bytes _ _ _) FY.entry_find ha (sT hs hr h1 h2) (opI post _ _)
theorem rC {id:String} {b cs:Array UInt8} {t u:Tok} {left:Bool} {nm:String} {name:Str} (slot:Slot "bytes" name id) (entry:entryFor table id=some (Builtin.Bytes.stripM .bytes nm left true)) (ha:argsOk id ⟨[.bytes b t,.bytes cs u],[]⟩) (hz:b.size≤1000000)
  (post:aS w.params P s (.byt ((((if left then b.toList.dropWhile cs.contains else b.toList).reverse.dropWhile cs.contains).reverse).map UInt8.toNat)) Q):wpAny (model prog w) A (call (.builtin id) [.bytes b t,.bytes cs u]) Q E s:=by
 refine wpAny_call_entry slot (typeIs_bytes _ _ _) entry ?_ ha
 exact q8 rfl (fun t' tk=>post _ _ _ (fun _ _ e=>e) (Nat.le_refl _) ⟨_,_,rfl,rfl⟩) (by lia)
section
variable {R:C→Value→Prop} {α:Type} {c:C} {x:α} {u:Value} {us:List Value} {hp:Heap}
inductive IntOf (g:Int→Option α) (x:α) (u:Value):Prop
 |mk (i:Int) (t:Tok) (e:u= .int i t) (h:g i=some x)
inductive BytOf (g:List Nat→Option α) (x:α) (u:Value):Prop
 |mk (b:Array UInt8) (t:Tok) (e:u= .bytes b t) (h:g (b.toList.map UInt8.toNat)=some x)
inductive StrOf (g:List Nat→Option α) (x:α) (u:Value):Prop
 |mk (y:Str) (t:Tok) (e:u= .str y t) (h:g y.cps.toList=some x)
inductive LstOf (W:Params) (P:Fz) (hp:Heap) (g:List C→Option α) (x:α) (u:Value):Prop
 |mk (a:Addr) (o:Obj) (ws:Array Value) (n:Nat) (l:List C) (e:u= .ref a) (p:hp.get? a=some o) (c:o.cls= .type "list") (d:o.data= .seq ws n) (r:CRs W P l ws.toList) (h:g l=some x)
inductive OneOf (R:C→Value→Prop) (f:C→Option C) (x:C) (us:List Value):Prop
 |mk (c:C) (u:Value) (e:us=[u]) (h:f c=some x) (r:R c u)
inductive TwoOf (R:C→Value→Prop) (f:C→C→Option C) (x:C) (us:List Value):Prop
 |mk (c d:C) (u v:Value) (e:us=[u,v]) (h:f c d=some x) (r:R c u) (r':R d v)
theorem q_I {g:Int→Option α} (h:(asI c).bind g=some x) (t:TopR W P hp c u):IntOf g x u:=by
 obtain ⟨i,rfl,h⟩:=bI h
 obtain ⟨t,rfl⟩:=t
 exact ⟨i,t,rfl,h⟩
theorem q_B {g:List Nat→Option α} (h:(asB c).bind g=some x) (t:TopR W P hp c u):BytOf g x u:=by
 obtain ⟨i,rfl,h⟩:=bB h
 obtain ⟨b,t,rfl,rfl⟩:=t
 exact ⟨b,t,rfl,h⟩
theorem q_S {g:List Nat→Option α} (h:(asS c).bind g=some x) (t:TopR W P hp c u):StrOf g x u:=by
 obtain ⟨i,rfl,h⟩:=bS h
 obtain ⟨b,t,rfl,rfl⟩:=t
 exact ⟨b,t,rfl,h⟩
theorem q_L {g:List C→Option α} (h:(asL c).bind g=some x) (t:TopR W P hp c u):LstOf W P hp g x u:=by
 obtain ⟨i,rfl,h⟩:=bL h
 obtain ⟨a,o,ws,n,rfl,p,hc,hd,r⟩:=t
 exact ⟨a,o,ws,n,i,rfl,p,cls1 hc,hd,r,h⟩
theorem q_1 {f:C→Option C} {x:C} {cs:List C} (h:a1 f cs=some x) (t:Tops R cs us):OneOf R f x us:=by
 obtain ⟨c,rfl,h⟩:=FS h
 cases t with |cons a b=>cases b;exact ⟨c,_,rfl,h,a⟩
theorem q_2 {f:C→C→Option C} {x:C} {cs:List C} (h:a2 f cs=some x) (t:Tops R cs us):TwoOf R f x us:=by
 obtain ⟨c,d,rfl,h⟩:=FT h
 cases t with |cons a b=>cases b with |cons b e=>cases e;exact ⟨c,d,_,_,rfl,h,a,b⟩
end
inductive SubOf {α:Type} (g:Nat→Option α) (x:α) (u:Value):Prop
 |mk (y:UInt8) (t:Tok) (e:u= .bytes #[y] t) (h:g y.toNat=some x)
theorem q_U {c:C} {α:Type} {g:Nat→Option α} {x:α} {u:Value} {hp:Heap} (h:(as1 c).bind g=some x) (t:TopR W P hp c u):SubOf g x u:=by
 obtain ⟨i,rfl,h⟩:=b1 h
 obtain ⟨b,t,rfl,e⟩:=t
 obtain ⟨y,rfl,rfl⟩:=AI e
 exact ⟨y,t,rfl,h⟩
noncomputable abbrev jQ (prog:Program) (w:World) (A:Around) (Q:Value→Shared→Prop) (E:Value→Shared→Prop) (s:Shared) (b:Bm) (u:Value) (us:List Value):Prop:=wpAny (model prog w) A (call (.builtin b.id) (u::us)) Q E s
section
variable {o x:C} {cs:List C} {u:Value} {us:List Value} (to:TopR w.params P s.heap o u) (ts:Tops (TopR w.params P s.heap) cs us) (post:aS w.params P s x Q)
include to ts post
theorem D4 (h:hG .bfind o cs=some x):jQ prog w A Q E s .bfind u us:=by
 obtain ⟨b,t,rfl,h⟩:=q_B (hp:=s.heap) h to
 have h:=(ifO h).2
 rcases ts with _ | ⟨a,ts⟩
 ·exact nn h
 rcases ts with _ | ⟨a2,ts⟩
 ·obtain ⟨y,t,rfl,h⟩:=q_U h a
  obtain rfl:=Option.some.inj h
  rw [dK] at post
  exact oW (P:=P) (rest:=[]) (c:=y) rfl (Nat.zero_le _) hW hW (FY.args_find1 _ _) post
 rcases ts with _ | ⟨a3,ts⟩
 ·obtain ⟨y,t,rfl,h⟩:=q_U h a
  obtain ⟨i,t2,rfl,h⟩:=q_I h a2
  obtain rfl:=Option.some.inj h
  rw [dK] at post
  exact oW (P:=P) (rest:=[.int i t2]) (c:=y) rfl (Nat.le_succ 1) jF hW (FY.args_find2 _ _ _) post
 rcases ts with _ | ⟨_,_⟩
 ·obtain ⟨y,t,rfl,h⟩:=q_U h a
  obtain ⟨i,t2,rfl,h⟩:=q_I h a2
  obtain ⟨j,t3,rfl,h⟩:=q_I h a3
  obtain rfl:=Option.some.inj h
  rw [dK] at post
  exact oW (P:=P) (rest:=[.int i t2,.int j t3]) (c:=y) rfl (Nat.le_refl 2) jF jF (FY.args_find3 _ _ _ _) post
 ·exact nn h
theorem v5 (h:hG .brstrip o cs=some x):jQ prog w A Q E s .brstrip u us:=by
 obtain ⟨b,t,rfl,h⟩:=q_B (hp:=s.heap) h to
 obtain ⟨hz,h⟩:=ifO h
 obtain ⟨c,v,rfl,h,a⟩:=q_1 h ts
 obtain ⟨sub,t',rfl,h⟩:=q_B h a
 obtain rfl:=Option.some.inj h
 refine rC (P:=P) (left:=false) FY.slot_rstrip FY.entry_rstrip (FY.args_rstrip _ _) (dK ▸ sX hz) ?_
 rw [if_neg Bool.false_ne_true,m5]
 exact post
theorem AJ (h:hG .bstrip o cs=some x):jQ prog w A Q E s .bstrip u us:=by
 obtain ⟨b,t,rfl,h⟩:=q_B (hp:=s.heap) h to
 obtain ⟨hz,h⟩:=ifO h
 obtain ⟨c,v,rfl,h,a⟩:=q_1 h ts
 obtain ⟨sub,t',rfl,h⟩:=q_B h a
 obtain rfl:=Option.some.inj h
 refine rC (P:=P) (left:=true) FY.slot_strip FY.entry_strip (FY.args_strip _ _) (dK ▸ sX hz) ?_
 rw [if_pos rfl,m5,lR]
 exact post
theorem AM (h:hG .bsplit o cs=some x):jQ prog w A Q E s .bsplit u us:=by
 obtain ⟨b,t,rfl,h⟩:=q_B (hp:=s.heap) h to
 obtain ⟨hz,h⟩:=ifO h
 obtain ⟨c,v,rfl,h,a⟩:=q_1 h ts
 obtain ⟨sub,t',rfl,h⟩:=q_B h a
 obtain ⟨hs,rfl⟩:=ifS h
 exact y7 hs (dK ▸ sX hz) post
theorem AN (inh:Inh P s.heap) (h:hG .bjoin o cs=some x):jQ prog w A Q E s .bjoin u us:=by
 obtain ⟨b,t,rfl,h⟩:=q_B (hp:=s.heap) h to
 obtain ⟨c,v,rfl,h,a⟩:=q_1 h ts
 obtain ⟨a,o,ws,n,l,rfl,g,hc,hd,r,h⟩:=q_L h a
 obtain ⟨ns,hb,h⟩:=bM h
 obtain ⟨hz,rfl⟩:=ifS h
 exact D1 g hc hd hb r (dK ▸ hz) inh post
theorem AO (h:hG .sjoin o cs=some x):jQ prog w A Q E s .sjoin u us:=by
 obtain ⟨b,t,rfl,h⟩:=q_S (hp:=s.heap) h to
 obtain ⟨c,v,rfl,h,a⟩:=q_1 h ts
 obtain ⟨a,o,ws,n,l,rfl,g,hc,hd,r,h⟩:=q_L h a
 obtain ⟨ns,hb,h⟩:=bM h
 obtain ⟨hz,rfl⟩:=ifS h
 exact AC g hc hd hb r hz post
theorem AP (h:hG .sfind o cs=some x):jQ prog w A Q E s .sfind u us:=by
 obtain ⟨b,t,rfl,h⟩:=q_S (hp:=s.heap) h to
 obtain ⟨c,v,rfl,h,a⟩:=q_1 (ifO h).2 ts
 obtain ⟨y,t',rfl,h⟩:=q_S h a
 obtain ⟨c,hx,h⟩:=bU h
 obtain rfl:=Option.some.inj h
 rw [uZ hx]
 exact AA (P:=P) post
theorem D6 (h:hG .dget o cs=some x):jQ prog w A Q E s .dget u us:=by
 obtain ⟨l,rfl,h⟩:=bD h
 obtain ⟨k,d,v1,v2,rfl,h,a1,a2⟩:=q_2 h ts
 obtain ⟨y,t,rfl,h⟩:=q_S h a1
 obtain ⟨hd,rfl⟩:=ifS h
 obtain ⟨a,es,n,rfl,g,ne,r⟩:=to
 clear h ts a1
 rcases d with _ |_ <;> first |exact Bool.noConfusion hd |exact D2 g ne r a2 post
end
theorem HP {b o cs x} (h:hG b o cs=some x) {u:Value} {us:List Value} (inh:Inh P s.heap) (to:TopR w.params P s.heap o u) (ts:Tops (TopR w.params P s.heap) cs us) (post:aS w.params P s x Q):
  wpAny (model prog w) A (call (.builtin b.id) (u::us)) Q E s:=by
 rcases b with _ |_
 case bfind=>exact D4 to ts post h
 case brstrip=>exact v5 to ts post h
 case bstrip=>exact AJ to ts post h
 case bsplit=>exact AM to ts post h
 case bjoin=>exact AN to ts post inh h
 case sjoin=>exact AO to ts post h
 case sfind=>exact AP to ts post h
 case dget=>exact D6 to ts post h
 all_goals exact nn h
theorem op2 {h₀:Heap}:Op2 prog w h₀ where
 gmb:=fun h nl _ _ _ _ _ _ _ inh t q=>HN h nl inh t q
 gml:=fun h _ _ _ _ _ _ _ _ g q=>HO h g q
 met:=fun h _ _ _ _ _ _ _ _ _ inh to ts post=>HP h inh to ts post
 app:=fun hz g post=>HL hz g post
 ext:=fun hz g ne gb hc hd post=>HM hz g ne gb hc hd post
end
section
variable {prog:Program} {w:World} {A:Around} {E:Value→Shared→Prop} {s:Shared} {P:Fz} {Q:Value→Shared→Prop} {W:Params}
theorem m9:∀ (l:List Int) (a b:Int),j6 a (l++[b])=(if j6 a l < b then b else j6 a l)
 | [],a,b=>rfl
 |x::l,a,b=>by
  show j6 _ (l++[b])=_
  rw [m9 l];rfl
theorem jR (f:Nat→Int):∀ k,f (argBest (fun i j=>decide (f i > f j)) k)=j6 (f 0) ((List.range k).map fun i=>f (i+1))
 |0=>rfl
 |k+1=>by
  rw [List.range_succ,List.map_append,List.map_cons,List.map_nil,m9,← jR f k]
  have e:argBest (fun i j=>decide (f i > f j)) (k+1)=if decide (f (k+1) > f (argBest (fun i j=>decide (f i > f j)) k))=true then k+1 else argBest (fun i j=>decide (f i > f j)) k:=rfl
  rw [e]
  generalize argBest (fun i j=>decide (f i > f j)) k=b
  by_cases q:f b < f (k+1)
  ·rw [if_pos q,if_pos (by simpa using q)]
  ·rw [if_neg q,if_neg (by simpa using q)]
theorem lX:∀ {vs:List Value} {ns:List Int},IntsAre vs ns→∃ xs:List (Int × Tok),vs=xs.map (fun p=>Value.int p.1 p.2)∧ns=xs.map (·.1)
 |_,_,.nil=>⟨[],rfl,rfl⟩
 |_,_,.cons n t r=>by
  obtain ⟨xs,rfl,rfl⟩:=lX r
  exact ⟨(n,t)::xs,rfl,rfl⟩
theorem HQ {a:Addr} {o:Obj} {ws:Array Value} {n:Nat} (hh:A.handled=none) (g:s.heap.get? a=some o) (hc:o.cls= .type "list") (hd:o.data= .seq ws n) {l:List C} {i:Int} {is:List Int} (hi:eF l=some (i::is)) (r:CRs w.params P l ws.toList)
  (post:aS w.params P s (.int (j6 i is)) Q):wpAny (model prog w) A (call (.builtin "max") [.ref a]) Q E s:=by
 obtain ⟨xs,hv,hn⟩:=lX (lL hi r)
 have hw:ws=intItems xs.toArray:=by
  have:ws=(ws.toList).toArray:=by simp
  rw [this,hv];simp [intItems]
 subst hw
 have hsz:xs.toArray.size=is.length+1:=by
  have:=congrArg List.length hn
  simp at this
  simpa using this.symm
 refine aV (max_intList hh ⟨o,g,hc,n,hd⟩ (by lia) fun v h' tk hv' hk sz=> ?_)
 obtain ⟨t,rfl⟩:=intItems_at hv'
 rw [jR (numAt xs.toArray)]
 have e:(List.range (xs.toArray.size - 1)).map (fun i=>numAt xs.toArray (i+1))=is:=by
  rw [show xs.toArray.size - 1=is.length by lia]
  refine List.ext_getElem (by simp) fun j h1 h2=> ?_
  simp only [List.getElem_map,List.getElem_range]
  have h3:(xs.map (·.1))[j+1]? =some is[j]:=by
   rw [← hn]
   simp at h1
   simp [h1]
  unfold numAt
  rw [List.getElem?_toArray]
  rw [List.getElem?_map] at h3
  rw [h3];rfl
 have e0:numAt xs.toArray 0=i:=by
  have h3:(xs.map (·.1))[0]? =some i:=by rw [← hn];rfl
  unfold numAt
  rw [List.getElem?_toArray]
  rw [List.getElem?_map] at h3
  rw [h3];rfl
 rw [e,e0]
 exact post _ h' tk hk sz ⟨t,rfl⟩
theorem HR {x c:C} (h:JA c=some x) {u:Value} (inh:Inh P s.heap) (t:TopR w.params P s.heap c u) (post:aS w.params P s x Q):wpAny (model prog w) A (call (.builtin "len") [u]) Q E s:=by
 have hl:lim=1000000:=rfl
 cases c
 case byt l=>
  replace h:=ifS (show (if okL l=true then some (C.int l.length) else none)=some x from h)
  obtain ⟨hz,h⟩:=h
  obtain ⟨b,t,rfl,rfl⟩:=t
  have hz:=okL_le hz
  rw [dK] at hz
  subst h
  refine PySem.W.len_bytes (by lia) ?_
  have:=opI (tk:=s.toks+1+1) (t:=s.toks+1) post
  rwa [dK] at this
 case str l=>
  replace h:=ifS (show (if okL l=true then some (C.int l.length) else none)=some x from h)
  obtain ⟨hz,h⟩:=h
  obtain ⟨b,t,rfl,rfl⟩:=t
  have hz:=okL_le hz
  subst h
  have e:b.length=b.cps.toList.length:=rfl
  exact PySem.P.len_str (by rw [e];lia) (opI (tk:=s.toks+1+1) (t:=s.toks+1) post)
 case lst l=>
  obtain ⟨a,o,ws,n,rfl,g,hc,hd,r⟩:=t
  have hce:=(Prod.mk.inj hc).2
  replace hc:=cls1 hc
  obtain ⟨hz,h⟩:=ifS (show (if okL l=true then some (C.int l.length) else none)=some x from h)
  have hz:=okL_le hz
  have len:=bV r
  rw [Array.length_toList] at len
  subst h
  refine call_len_list ⟨o,g,hc,n,hd⟩ (by lia) ?_
  rw [len]
  exact opI post _ _
 case tup l=>
  obtain ⟨a,o,ws,n,rfl,p,hc,hd,r⟩:=t
  have hce:=(Prod.mk.inj hc).2
  replace hc:=cls1 hc
  obtain ⟨hz,h⟩:=ifS (show (if okL l=true then some (C.int l.length) else none)=some x from h)
  have hz:=okL_le hz
  have len:=bV r
  rw [Array.length_toList] at len
  subst h
  refine PyProof.Rows.len_tuple ⟨o,inh _ _ p,hc,n,hd⟩ (by lia) ?_
  rw [len]
  exact opI post _ _
 all_goals cases h
end
section
variable {prog:Program} {w:World} {A:Around} {E:Value→Shared→Prop} {s:Shared} {P:Fz} {Q:Value→Shared→Prop} {W:Params}
theorem sort1 {a:Addr} {vs:List Value} {n:Nat} (ho:s.heap.get? a=some (seqObj "list" vs.toArray n)) (h1:vs.length < 2)
  (h:Q .none {s with heap:=sortedHeap s.heap a vs ((vs.toArray.zip vs.toArray).map (·.2))}):wpAny (model prog w) A (call (.builtin "list.sort") [.ref a]) Q E s:=by
 refine wpAny_call_entry slot_list_sort ⟨_,ho,rfl⟩ entry_list_sort ?_ (args_list_sort _)
 rw [list_sort_plain]
 have ha:a < s.heap.objs.size:=Heap.lt_size ho
 refine wpAny_bind (listItems_at ho rfl ?_)
 refine wpAny_bind (listUpdate_at ho rfl ?_ (by rw [List.size_toArray,sizeLine_eq];lia))
 obtain ⟨e1,ho1⟩:∃ e1,(s.heap.update a (Obj.mapSeq fun _=> #[])).get? a=some (seqObj "list" #[] e1):=⟨_,get?_update_seq ho (fun _=> #[])⟩
 refine wpAny_bind (seqEpoch_at ho1 rfl ?_)
 refine wpAny_bind (wpAny_newTuple ?_ (by rw [sizeLine_eq];simp;lia))
 refine wpAny_bind (wpAny_newList ?_)
 refine wpAny_holding ?_
 have ho6:(((s.heap.update a (Obj.mapSeq fun _=> #[])).push (seqObj "tuple" vs.toArray 0)).push (seqObj "list" #[] 0)).get? a=some (seqObj "list" #[] e1):=by
  rw [Heap.get?_push_ne _ _ _ (by rw [size_push',Heap.size_update];exact Nat.ne_of_lt (Nat.lt_succ_of_lt ha)),Heap.get?_push_ne _ _ _ (by rw [Heap.size_update];exact Nat.ne_of_lt ha)]
  exact ho1
 show wpAny (model prog w) _ _ _ E {s with heap:=((s.heap.update a (Obj.mapSeq fun _=> #[])).push (seqObj "tuple" vs.toArray 0)).push (seqObj "list" #[] 0)}
 dsimp only
 have h2:vs.toArray.size < 2:=by simpa using h1
 rw [if_pos h2,if_pos h2]
 refine wpAny_bind (wpAny_pure ?_)
 rw [StateT.run_pure]
 refine wpAny_bind (wpAny_pure ?_)
 dsimp only
 refine wpAny_bind (seqEpoch_at ho6 rfl ?_)
 refine wpAny_bind (listUpdate_at ho6 rfl ?_ (by rw [sizeLine_eq];simp) (by rw [Array.size_map];show (vs.toArray.zip vs.toArray).size≤_;rw [Array.size_zip,sizeLine_eq];lia))
 simp only [bne_self_eq_false,Bool.false_eq_true,if_false]
 exact wpAny_pure ⟨_,rfl,h⟩
theorem AQ (vs:List Value):(vs.toArray.zip vs.toArray).map (·.2)=vs.toArray:=by
 rw [Array.map_snd_zip];simp
theorem v6 {l:List (List Nat × C)} {x:C} (h:EO (.dcs l)=some x) {u:Value} (hh:A.handled=none) (t:TopR w.params P s.heap (.dcs l) u) (post:aS w.params P s x Q):
  wpAny (model prog w) A (call (.builtin "sorted") [u]) Q E s:=by
 obtain ⟨a,es,n,rfl,g,ne,r⟩:=t
 have key:∃ ks:List Str,x= .lst (ks.map fun k=>C.str k.cps.toList)∧ks.length≤1∧∃ kvs:List (Str × Value),kvs.map (·.1)=ks∧s.heap.DictAt (PySem.strKind prog w) a kvs n:=by
  have hm:=yW (prog:=prog) (w:=w) (s:=s) g r
  have hk:KeysOf (PySem.strKind prog w) es:=by
   obtain ⟨o',es',ep',g',_,d',k',_⟩:=hm
   rw [g] at g';cases g'
   cases d'
   exact k'
  cases l with
  |nil=>
   cases h
   have h0:es.toList=[]:=r
   exact ⟨[],rfl,Nat.zero_le _,[],rfl,_,es,g,⟨rfl,rfl,rfl⟩,rfl,hk,by rw [h0];exact .nil,List.nodup_nil⟩
  |cons p l=>
  cases l with
  |nil=>
   obtain ⟨k,c⟩:=p
   cases h
   obtain ⟨y,t,v,rest,e1,e2,e3,e4⟩:=r
   have hr:rest=[]:=e4
   subst hr
   exact ⟨[y],by rw [← e2];rfl,Nat.le_refl _,[(y,v)],rfl,_,es,g,⟨rfl,rfl,rfl⟩,rfl,hk,by rw [e1];exact .cons (by show (y == y)=true;simp) rfl .nil,by simp⟩
  |cons=>cases h
 obtain ⟨ks,rfl,hks,kvs,hkv,hat⟩:=key
 have hlen:kvs.length=ks.length:=by rw [← hkv,List.length_map]
 have lo:(a == sysModules)=false:=beq_eq_false_iff_ne.mpr ne
 refine aV ?_
 refine call_function_entry kind_sorted plain_sorted entry_sorted (args_sorted1 _) ?_
 unfold Builtin.«sorted»
 refine wpAny_bind (m:=checkCount "sorted" 1 1 _) (wpAny_pure ?_)
 refine wpAny_bind (aV (kdu_collect (A:=A.in1) (kdl_dict (knd:=PySem.strKind prog w) (kvs:=kvs) (ep:=n) lo) hh hat (by rw [sizeLine_eq];lia) fun h' tk acc hk hacc szh=> ?_))
 have hl:acc.toList.length=kvs.length:=by rw [Array.length_toList];exact hacc.1
 refine wpAny_bind (wpAny_newList ?_ (by rw [hl,sizeLine_eq];lia))
 have hD:(h'.push {cls:=.type "list",data:=.seq acc.toList.toArray}).get? h'.objs.size=some (seqObj "list" acc.toList.toArray 0):=Heap.get?_push_size _ rfl
 refine wpAny_bind (wpAny_holding (sort1 hD (by lia) ?_))
 refine wpAny_pure ⟨_,rfl,fun sz=> ?_⟩
 rw [AQ] at sz ⊢
 obtain ⟨e,he⟩:=sortedHeap_at (out:=acc.toList.toArray) hD
 have old:Kept s.heap (sortedHeap (h'.push {cls:=.type "list",data:=.seq acc.toList.toArray}) h'.objs.size acc.toList acc.toList.toArray):=fun b o e=>by
  have e1:=hk b o e
  have lt:=Heap.lt_size e1
  rw [sortedHeap_old (Nat.ne_of_lt lt) (by rw [size_push'];exact Nat.lt_succ_of_lt lt),Heap.get?_push_ne _ _ _ (Nat.ne_of_lt lt)]
  exact e1
 refine post _ _ _ old sz ⟨_,_,_,_,rfl,.inr ⟨szh,he⟩,rfl,rfl,?_⟩
 have vals:∀ (ks:List Str) (vs:List Value),vs.length=ks.length→(∀ (j:Nat) (v:Value),vs[j]? =some v→∃ k,ks[j]? =some k∧∃ t,v=Value.str k t)→CRs w.params (Mk P s.heap (sortedHeap (h'.push {cls:=.type "list",data:=.seq acc.toList.toArray}) h'.objs.size acc.toList acc.toList.toArray)) (ks.map fun k=>C.str k.cps.toList) vs:=by
  intro ks
  induction ks with
  |nil=>intro vs hl _;exact List.length_eq_zero_iff.mp hl
  |cons k ks ih=>
   intro vs hl hv
   cases vs with
   |nil=>cases hl
   |cons v vs=>
    obtain ⟨k',hk',t,rfl⟩:=hv 0 v rfl
    cases hk'
    exact ⟨_,vs,rfl,⟨k,t,rfl,rfl⟩,ih vs (by simpa using hl) fun j v h=>hv (j+1) v h⟩
 refine vals ks acc.toList (by lia) fun j v hj=> ?_
 rw [Array.getElem?_toList] at hj
 obtain ⟨k,x,hx,hk⟩:=hacc.2 j v hj
 obtain ⟨t,rfl⟩:=Value.isStrOf_shape hk
 exact ⟨k,by rw [← hkv,List.getElem?_map,hx];rfl,t,rfl⟩
theorem HS {i j:Int} {t u:Tok} (hh:A.handled=none) (post:aS w.params P s (.int (if j < i then j else i)) Q):wpAny (model prog w) A (call (.builtin "min") [.int i t,.int j u]) Q E s:=by
 refine aV (min_two_ints hh fun h' tk hk sz=> ?_)
 refine post _ h' tk hk sz ?_
 split
 ·exact ⟨_,rfl⟩
 ·exact ⟨_,rfl⟩
theorem D7 {i j:Int} {t u:Tok} (hh:A.handled=none) (post:aS w.params P s (.int (if i < j then j else i)) Q):wpAny (model prog w) A (call (.builtin "max") [.int i t,.int j u]) Q E s:=by
 refine aV (max_two_ints hh fun h' tk hk sz=> ?_)
 refine post _ h' tk hk sz ?_
 by_cases q:i < j
 ·rw [if_pos q,if_pos q];exact ⟨_,rfl⟩
 ·rw [if_neg q,if_neg q];exact ⟨_,rfl⟩
theorem HT {i:Int} {t:Tok} (h0:0≤i∧i < 55296) (post:aS w.params P s (.str [i.toNat]) Q):wpAny (model prog w) A (call (.builtin "chr") [.int i t]) Q E s:=
 PySem.P.chr_of_int (by rw [decide_eq_false (by lia),decide_eq_false (by lia)];rfl) (post _ _ _ (fun _ _ e=>e) (Nat.le_refl _) ⟨_,_,rfl,rfl⟩)
theorem HU {n:Nat} {x:Str} {t:Tok} (hx:x.cps.toList=[n]) (post:aS w.params P s (.int n) Q):wpAny (model prog w) A (call (.builtin "ord") [.str x t]) Q E s:=by
 rw [uZ hx]
 exact PySem.P.ord_of_char (opI post _ _)
end
section
variable {prog:Program} {w:World} {A:Around} {E:Value→Shared→Prop} {s:Shared} {P:Fz} {Q:Value→Shared→Prop} {W:Params}
theorem hX {i:Int} (h:okI i=true): -1000000≤i∧i≤1000000:=by
 have:=Nat.le_of_ble_eq_true h
 have hl:lim=1000000:=rfl
 lia
theorem sY {a b c:Int} (ha: -1000000≤a∧a≤1000000) (hb: -1000000≤b∧b≤1000000) (hc:c≠0):0≤Builtin.Range.rangeSize a b c∧Builtin.Range.rangeSize a b c≤2000001:=by
 unfold Builtin.Range.rangeSize
 by_cases p:c > 0
 ·rw [if_pos p]
  split
  ·have h1:(b - a - 1) / c≤b - a - 1:=Int.ediv_le_self _ (by lia)
   have h2:0≤(b - a - 1) / c:=Int.ediv_nonneg (by lia) (by lia)
   lia
  ·lia
 ·rw [if_neg p]
  split
  ·have h1:(a - b - 1) / (-c)≤a - b - 1:=Int.ediv_le_self _ (by lia)
   have h2:0≤(a - b - 1) / (-c):=Int.ediv_nonneg (by lia) (by lia)
   lia
  ·lia
theorem lY {a b c:Int} (ha: -1000000≤a∧a≤1000000) (hb: -1000000≤b∧b≤1000000) (hc': -1000000≤c∧c≤1000000) (hc:c≠0):Builtin.Range.small a b c=true:=by
 obtain ⟨h1,h2⟩:=sY ha hb hc
 unfold Builtin.Range.small
 simp only [Builtin.Range.rangeFitsLong,Bool.and_eq_true,Bool.or_eq_true,decide_eq_true_eq,beq_iff_eq]
 generalize Builtin.Range.rangeSize a b c=n at *
 refine ⟨⟨⟨⟨by lia,by lia⟩,by lia⟩,by lia⟩,.inr ?_⟩
 split
 ·simp only [Bool.and_eq_true,decide_eq_true_eq];lia
 ·simp only [Bool.and_eq_true,decide_eq_true_eq];lia
theorem sZ {a b c:Int} {ta tb tc:Tok} {h':Heap} {tk:Nat} (hh:h'=s.heap.push {cls:=.type "range",data:=.fields #[.int a ta,.int b tb,.int c tc]}) (hs:Builtin.Range.small a b c=true) (post:aS w.params P s (.rng a b c) Q):Q (.ref s.heap.objs.size) {s with heap:=h',toks:=tk}:=by
 subst hh
 exact post _ _ _ (a8 _) (aU _) ⟨_,ta,tb,tc,rfl,gK rfl,hs⟩
theorem lZ {Q:List Value→Shared→Prop} (it:Addr) {T:String} {o:Obj} {items:Array Value} {n:Nat} (hT:T="list"∨T="tuple")
  (ho:s.heap.get? it=some o) (hc:o.cls= .type T) (hd:o.data= .seq items n)
  (hQ:∀ h',(∀ b o',s.heap.get? b=some o'→h'.get? b=some o')→s.heap.objs.size≤h'.objs.size→Q items.toList {s with heap:=h'}) (hsz:items.size≤sizeLine):
  wpAny (model prog w) A (collect (.ref it)) Q E s:=
 aV (wpAny_collect_seq it hT ho hc hd (fun h' k sz=>hQ h' k sz) hsz)
theorem rD (l:Addr) (o:Obj) (items:Array Value) (n:Nat) (hc:o.cls= .type "list") (hd:o.data= .seq items n) (hsz:items.size≤sizeLine):
  Meets (Builtin.«tuple.__new__» ⟨[.type "tuple",.ref l],[]⟩)
   (fun _ R s=>s.heap.get? l=some o∧∀ h':Heap,(∀ b o',s.heap.get? b=some o'→h'.get? b=some o')→s.heap.objs.size≤h'.objs.size→R (.ok (.ret (.ref h'.objs.size))) {s with heap:=h'.push {cls:=.type "tuple",data:=.seq items}}):=
 .of_wp fun prog w A R s h=>by
  obtain ⟨hp,g,d,tk,os⟩:=s;obtain ⟨ht,h⟩:=h
  have hsub:=sub_tuple_self
  have hinit:=init_tuple_lookup
  have hmh:=madeHere_tuple
  have hT:Shared.TypeIs ⟨hp,g,d,tk,os⟩ (.ref l) "list":=⟨o,ht,hc⟩
  wp_walk using wpAny_loadPart' ht,wpAny_typeOf hT,lZ (hsz:=hsz) l (.inl rfl) ht hc hd
  intro h' hk sz
  show wpAny _ _ (Builtin.Tuple.tupleExact items.toList.toArray >>=fun v=>ret v) _ _ _
  unfold Builtin.Tuple.tupleExact
  refine wpAny_bind (wpAny_newObj_type ?_ (by show items.toList.toArray.size≤sizeLine;simpa using hsz))
  refine wpAny_pure ⟨_,rfl,?_⟩
  have e:items.toList.toArray=items:=by simp
  rw [e]
  exact h h' hk sz
theorem AR {a:Addr} {o:Obj} {ws:Array Value} {n:Nat} {l:List C} (g:s.heap.get? a=some o) (hc:o.cls= .type "list") (hd:o.data= .seq ws n) (hz:ws.size≤sizeLine) (r:CRs w.params P l ws.toList) (post:aS w.params P s (.tup l) Q):
  wpAny (model prog w) A (call (.type "tuple") [.ref a]) Q E s:=by
 refine callType_new PySem.F.called_tuple (by decide) (PySem.F.typeCall_tuple_1 _) (PySem.F.newCall_tuple_1 _) (fun obj=>PySem.F.args_object_init_2 obj _) PySem.F.entry_tuple_new
  (rD a o ws n hc hd hz) ⟨g,fun h' hk sz=>⟨⟨_,Heap.get?_push_size _ rfl,rfl⟩,?_⟩⟩
 have k:Kept s.heap (h'.push {cls:=.type "tuple",data:=.seq ws}):=fun b o e=>Heap.get?_push_of_some _ (hk b o e)
 exact post _ _ s.toks k (by rw [Heap.size_push];lia) ⟨_,_,ws,0,rfl,.inr ⟨sz,Heap.get?_push_size _ rfl⟩,rfl,rfl,bW (fun a o e=>.inl e) _ _ r⟩
theorem u0 {a:Addr} {o:Obj} {ws:Array Value} {n:Nat} {l:List C} {T:String} (hT:T="list"∨T="tuple") (g:s.heap.get? a=some o) (hc:o.cls= .type T) (hd:o.data= .seq ws n) (hz:ws.size≤sizeLine) (r:CRs w.params P l ws.toList) (post:aS w.params P s (.lst l) Q):
  wpAny (model prog w) A (call (.type "list") [.ref a]) Q E s:=
 aV (call_list_seq a hT g hc hd (fun h' c' hk g' sz=>post _ h' s.toks hk sz ⟨_,_,ws,c',rfl,.inr ⟨Nat.le_refl _,g'⟩,rfl,rfl,bW (fun a o e=>.inl e) _ _ r⟩) hz)
theorem AT {a:Addr} {o:Obj} {ws:Array Value} {n:Nat} {l:List C} {is:List Int} (hh:A.handled=none) (g:s.heap.get? a=some o) (hc:o.cls= .type "list") (hd:o.data= .seq ws n) (hi:eF l=some is) (hb:wU is=true) (hz:is.length≤lim) (r:CRs w.params P l ws.toList) (post:aS w.params P s (.byt (is.map Int.toNat)) Q):
  wpAny (model prog w) A (call (.type "bytes") [.ref a]) Q E s:=by
 have hb':∀ n∈is,0≤n∧n < 256:=fun n hn=>by
  have:=List.all_eq_true.mp hb n hn
  simpa using this
 have I:=lL hi r
 have hl:lim=1000000:=rfl
 refine aV (call_bytes_ints (vs:=ws.toList) (ns:=is) ⟨o,g,hc,n,by rw [hd]⟩ I hb' (by rw [I.length,sizeLine_eq];lia) hh fun h' t k hk sz=> ?_)
 refine post _ h' k hk sz ⟨_,t,rfl,?_⟩
 unfold byteArr
 simp only [List.map_map]
 refine List.map_congr_left fun n hn=> ?_
 have:=hb' n hn
 show (n.toNat.toUInt8).toNat=n.toNat
 have h2:n.toNat < 256:=by lia
 simp [Nat.mod_eq_of_lt h2]
theorem digits:∀ k:Nat,k < 10→(Str.ofString (toString ((k:Nat):Int))).cps.toList=[48+k]:=by decide
theorem HV {i:Int} {t:Tok} (h0:0≤i∧i < 10) (post:aS w.params P s (.str [48+i.toNat]) Q):wpAny (model prog w) A (call (.type "str") [.int i t]) Q E s:=by
 obtain ⟨k,rfl⟩:∃ k:Nat,i=k:=⟨i.toNat,by lia⟩
 refine PySem.P.str_of_int ?_ (post _ _ _ (fun _ _ e=>e) (Nat.le_refl _) ⟨_,_,rfl,digits k (by lia)⟩)
 exact (by decide:∀ k:Nat,k < 10→((k:Nat):Int).natAbs.log2 < 1920) k (by lia)
theorem mB:typeLookup (.type "bytes") "__bytes__"=pure (some (.builtin "bytes.__bytes__")):=by rw [typeLookup_type,builtinLookup_eq_fast];kernel_rfl
theorem l0 {b:Array UInt8} {t:Tok} (h:Q (.bytes b t) s):codeAny (model prog w) A (.call (.builtin "bytes.__new__") ⟨[.type "bytes",.bytes b t],[]⟩) (wants Q E) s:=by
 refine codeAny_of_tree ?_
 show wpAny _ A.in1 (do checkBuiltinCall "bytes.__new__" ⟨[.type "bytes",.bytes b t],[]⟩;again (.builtin "bytes.__new__" ⟨[.type "bytes",.bytes b t],[]⟩)) _ _ s
 refine wpAny_bind (wpAny_of_eq (PySem.F.bm_newCall _) (wpAny_pure ⟨plainId_quiet PySem.F.bm_plain _,codeAny_builtin PySem.F.bm_entry ?_⟩))
 rw [Around.under_plainId PySem.F.bm_plain _]
 unfold Builtin.«bytes.__new__»
 refine wpAny_bind (wpAny_of_eq (a:=true) rfl ?_)
 refine bm_if_false rfl ?_
 refine wpAny_bind (wpAny_of_eq PySem.F.bm_sub ?_)
 refine bm_if_false rfl ?_
 refine wpAny_bind (wpAny_of_eq (PySem.F.bm_bind _) ?_)
 refine wpAny_bind (wpAny_of_eq (a:=()) rfl ?_)
 refine wpAny_bind (wpAny_of_eq (a:=()) rfl ?_)
 refine bm_if_false rfl ?_
 refine wpAny_bind (wpAny_specialOf (typeIs_bytes _ _ _) mB ?_)
 refine wpAny_bind (wpAny_rule (wpAny_bind (wpAny_typeOf (typeIs_bytes _ _ _) ?_)))
 refine bm_if_true (by decide) ?_
 show wpAny _ _ (if (Value.type "bytes" == Value.type "bytes")=true then _ else _) _ _ _
 refine bm_if_true (by decide) ?_
 first
  |exact wpAny_pure h
  |exact wpAny_bind (wpAny_pure (wpAny_pure h))
theorem mD {b:Array UInt8} {t:Tok} (h:Q (.bytes b t) s):wpAny (model prog w) A (call (.type "bytes") [.bytes b t]) Q E s:=by
 refine callType_codes (Q₁:=fun obj s₁=>s₁.TypeIs obj "bytes"∧Q obj s₁) PySem.F.bm_called (PySem.F.bm_typeCall _) PySem.F.entry_object_init
  (l0 ⟨PySem.W.typeIs_bytes _ _ _,h⟩) fun obj s₁ h₁=> ?_
 exact ⟨h₁.1,PySem.F.args_object_init_2 obj _,object_init_meets PySem.F.bm_called.init.lookup PySem.F.bm_called.made (by decide) prog w A.in1 _ s₁ ⟨h₁.1,rfl,h₁.2⟩⟩
theorem AU (t:Ty) (h:Heap):∃ k,(k=Keeper.frame∨k=Keeper.machine∨k=Keeper.boundFrame)∧Looks (model prog w) h (keeperOf (.type t.nm)) k:=by
 exact ⟨.machine,.inr (.inl rfl),Looks.of_pure rfl⟩
end
theorem rE {prog:Program} {w:World} {A:Around} {E:Value→Shared→Prop} {s:Shared} {v:Value} {T id:String} {name:Str} {Q:Option Value→Shared→Prop} {B:Builtin} {Z:Shared→Prop}
  (slot:Slot T "__getattribute__" id) (no:typeLookup (.type T) "__getattr__"=pure none)
  (e2:entryFor table id=some B) (ar:∀ u,argsOk id ⟨[v,.str name u],[]⟩) (m:∀ u,Meets (B ⟨[v,.str name u],[]⟩) (fun A R s=>Z s∧raisesAttr v name A R s)) (hA:A.handled=none)
  (hT:∀ t,Shared.TypeIs {s with toks:=t} v T) (hZ:∀ t,Z {s with toks:=t})
  (h:∀ h' tk,(∀ b o,s.heap.get? b=some o→h'.get? b=some o)→Q none {s with heap:=h',toks:=tk}):
  wpAny (model prog w) A (getAttr? v name) Q E s:=by
 refine wpAny_bind (wpAny_mkText (wpAny_bind (wpAny_attempt (wpAny_holding (wpAny_bind (wpAny_typeOf (hT _) ?_))))))
 rw [slot.lookup]
 refine wpAny_bind (wpAny_pure ?_)
 show wpAny _ _ (getAttrByItsOwn v _ (.type T) (.builtin id) false false) _ _ _
 refine wpAny_bind (wpAny_pure (wpAny_bind (wpAny_attempt (wpAny_holding ?_))))
 show wpAny _ _ (boundAndCalled (.builtin id) v _) _ _ _
 unfold boundAndCalled
 rw [slot.bind]
 refine wpAny_bind (wpAny_pure (call_meets slot (hT _) e2 (ar _) (m _) ⟨hZ _,hA,fun h' tk' e x=> ?_⟩))
 obtain ⟨_,_,he⟩:=x.there
 have hE:∀ t,Shared.TypeIs {s with heap:=h',toks:=t} (.ref e) "AttributeError":=fun _=>⟨_,he,rfl⟩
 refine wpAny_bind (wpAny_isInstance (hE _) sub_AttributeError ?_)
 rw [if_pos rfl]
 have hb:hookBehind (.type T) none=pure none:=no
 rw [hb]
 refine wpAny_bind (wpAny_pure ?_)
 refine wpAny_throw (E:=fun _ _=>wpAny _ _ _ _ _ _) (wpAny_bind (wpAny_isInstance (hE _) sub_AttributeError ?_))
 exact wpAny_pure (h _ _ x.of.keeps)
theorem f8:plainId "dict.update.loop"=true:=by decide+kernel
theorem rF:entryFor table "dict.update.loop"=some Builtin.«dict.update.loop»:=by first |exact entryFor_of_fast (by kernel_rfl) |exact entryFor_of_tree (by kernel_rfl)
section
variable {prog:Program} {w:World} {A:Around} {E:Value→Shared→Prop} {s:Shared} {P:Fz} {W:Params}
variable {K:Type} [DecidableEq K] {knd:KeyKind prog w K}
noncomputable def hY (knd:KeyKind prog w K) (hb:Heap) (v:Value) (kv:K × Value):Prop:=∃ b o key m,v= .ref b∧hb.get? b=some o∧o.cls= .type "tuple"∧o.data= .seq #[key,kv.2] m∧knd.is kv.1 key=true
theorem D8 {I d:Addr} {fp:List Addr} {n:Nat} {Pi:Nat→Value→Prop} {St:Nat→Heap→Prop} {R:Result→Shared→Prop} {hb:Heap} {kvs:List (K × Value)} (W:Walks prog w A.in1 I fp [I] n Pi St) (hd:d∉fp) (hn:n=kvs.length) (hz:n≤1000000) (hI:hb.get? I=none) (hD:hb.get? d=none)
  (hP:∀ i v,Pi i v→∃ kv,kvs[i]? =some kv∧hY knd hb v kv):∀ (k i:Nat) (s:Shared),n - i=k→i≤n→St i s.heap→Kept hb s.heap→s.heap.DictOf knd d (merged [] (kvs.take i))→
  (∀ h' tk,Kept hb h'→h'.DictOf knd d (merged [] kvs)→R (.ok (.ret .none)) {s with heap:=h',toks:=tk})→codeAny (model prog w) A (.builtin "dict.update.loop" ⟨[.ref d,.ref I,rawInt i,.none],[]⟩) R s:=by
 have hdI:d≠I:=fun e=>hd (e ▸ W.sub _ (List.mem_singleton.mpr rfl))
 intro k
 induction k with
 |zero=>
  intro i s hk hi st kp dd post
  have:i=n:=by lia
  subst this
  refine codeAny_builtin rF ?_
  rw [Around.under_plainId f8 _]
  show wpAny _ A.in1 (pyNext (.ref I) >>=_) _ _ s
  refine wpAny_bind (W.done s _ _ st fun h' tk hk'=> ?_)
  have hd':h'.DictOf knd d (merged [] (kvs.take i)):=dd.at fun o e=>hk' d o (by simp [hdI]) e
  rw [hn,List.take_length] at hd'
  show wpAny _ _ (Builtin.Dict.addKeywords d [] >>=_) _ _ _
  exact wpAny_bind (wpAny_pure (wpAny_pure (post h' tk (fun b o e=>hk' b o (fun q=>by rw [List.mem_singleton.mp q,hI] at e;cases e) (kp b o e)) hd')))
 |succ k ih=>
  intro i s hk hi st kp dd post
  refine codeAny_builtin rF ?_
  rw [Around.under_plainId f8 _]
  show wpAny _ A.in1 (pyNext (.ref I) >>=_) _ _ s
  refine wpAny_bind (W.item i s _ _ (by lia) st fun v h' tk pv st' hk'=> ?_)
  obtain ⟨kv,hkv,b,o,key,m,rfl,go,oc,od,ki⟩:=hP i v pv
  have kp':Kept hb h':=fun b o e=>hk' b o (fun q=>by rw [List.mem_singleton.mp q,hI] at e;cases e) (kp b o e)
  have hd':h'.DictOf knd d (merged [] (kvs.take i)):=dd.at fun o e=>hk' d o (by simp [hdI]) e
  refine wpAny_bind (wpAny_holding (wpAny_bind (wpAny_tryCatch ?_)))
  unfold Builtin.Dict.pairItems
  refine wpAny_bind (wpAny_typeOf (T:="tuple") ⟨o,kp' _ _ go,oc⟩ ?_)
  refine wpAny_ite_true rfl ?_
  refine wpAny_bind (wpAny_seqItems (kp' _ _ go) od ?_)
  refine wpAny_pure ?_
  show wpAny _ _ (holding [key,kv.2] (dictSet d key kv.2)) _ _ _
  refine wpAny_holding (wpAny_dictSet_pairs ki hd' (fun h2 d2 sb=> ?_) ?_)
  ·rw [← merged_take_succ [] kvs i kv hkv] at d2
   refine wpAny_pure ⟨plainId_quiet f8 _,?_⟩
   refine ih (i+1) _ (by lia) (by lia) (W.frame _ _ _ st' fun b hb o e=>by rw [sb.2 b (fun q=>hd (q ▸ hb))];exact e) (fun b o e=>by rw [sb.2 b (fun q=>by rw [q,hD] at e;cases e)];exact kp' b o e) d2 ?_
   exact fun h3 tk3 k3 d3=>post h3 tk3 k3 d3
  ·have:=merged_length_le [] (kvs.take i)
   have e:=sizeLine_eq
   simp only [List.length_nil,List.length_take] at this
   lia
theorem v7 {a:Addr} {T:String} {o:Obj} {xs:Array Value} {k:Nat} {Q:Option Value→Shared→Prop} (hT:T="list"∨T="tuple") (hx:s.heap.get? a=some o) (hc:o.cls= .type T) (hd:o.data= .seq xs k) (hn:o.dict=none) (hA:A.handled=none)
  (h:∀ h' tk,Kept s.heap h'→s.heap.objs.size≤h'.objs.size→Q none {s with heap:=h',toks:=tk}):wpAny (model prog w) A (getAttr? (.ref a) "keys") Q E s:=by
 obtain ⟨oc,od,odt,osl⟩:=o
 dsimp only at hc hd hn
 subst hc;subst hd;subst hn
 refine aV ?_
 rcases hT with rfl |rfl
 ·exact rE F.slot_list_getattribute am_list_getattr_none am_entry_list_getattribute (fun u=>F.args_list_getattribute_2 _ _) (fun u=>meets_getattribute_miss_list a xs k osl "keys" u (am_miss_of_fast (by kernel_rfl)) (by kernel_rfl) (by rw [sizeLine_eq];decide)) hA (fun _=>⟨_,hx,rfl⟩) (fun _=>hx) h
 ·exact rE F.slot_tuple_getattribute am_tuple_getattr_none am_entry_tuple_getattribute (fun u=>F.args_tuple_getattribute_2 _ _) (fun u=>meets_getattribute_miss_tuple a xs k osl "keys" u (am_miss_of_fast (by kernel_rfl)) (by kernel_rfl) (by rw [sizeLine_eq];decide)) hA (fun _=>⟨_,hx,rfl⟩) (fun _=>hx) h
end
section
variable {prog:Program} {w:World} {A:Around} {E:Value→Shared→Prop} {s:Shared} {P:Fz} {W:Params}
variable {K:Type} [DecidableEq K] {knd:KeyKind prog w K}
theorem nA {a:Addr} {T:String} {o:Obj} {ws:Array Value} {n:Nat} {kvs:List (K × Value)} {Q:Value→Shared→Prop} (hT:T="list"∨T="tuple") (g:s.heap.get? a=some o) (hc:o.cls= .type T) (hd:o.data= .seq ws n) (hn:o.dict=none) (hh:A.handled=none)
  (hl:ws.size=kvs.length) (hz:kvs.length≤1000000) (hw:∀ (i:Nat) (v:Value),ws[i]? =some v→∃ kv,kvs[i]? =some kv∧hY knd s.heap v kv) (hnd:(kvs.map (·.1)).Nodup)
  (post:∀ h' tk,Kept s.heap h'→h'.DictOf knd s.heap.objs.size kvs→Q (.ref s.heap.objs.size) {s with heap:=h',toks:=tk}):wpAny (model prog w) A (call (.type "dict") [.ref a]) Q E s:=by
 refine callType_codes (Q₁:=fun obj s₁=>obj= .ref s.heap.objs.size∧s₁={s with heap:=s.heap.push {cls:=.type "dict",data:=.dict #[]}}) PySem.F.kt_called_dict (PySem.F.kt_typeCall_dict_1 _) PySem.F.entry_dict_init
  (kt_code_dict_new _ ⟨rfl,rfl⟩) ?_
 rintro obj s₁ ⟨rfl,rfl⟩
 have hnew:(s.heap.push {cls:=.type "dict",data:=.dict #[]}).DictOf knd s.heap.objs.size []:=Heap.DictOf.new s.heap
 refine ⟨hnew.typeIs,PySem.F.args_dict_init_2 _ _,?_⟩
 unfold Builtin.«dict.__init__»
 refine wpAny_bind ?_
 unfold Builtin.Dict.selfAndRest
 refine wpAny_bind (wpAny_notOrdered_dict hnew.typeIs ?_)
 show wpAny _ _ (pure (s.heap.objs.size,[Value.ref a])) _ _ _
 refine wpAny_pure ?_
 show wpAny _ _ (Builtin.Dict.updateFrom "dict.__init__" s.heap.objs.size (.ref a) [] .none) _ _ _
 unfold Builtin.Dict.updateFrom
 have g1:(s.heap.push {cls:=.type "dict",data:=.dict #[]}).get? a=some o:=Heap.get?_push_of_some _ g
 refine wpAny_bind (wpAny_typeOf (T:=T) ⟨o,g1,hc⟩ ?_)
 rw [if_pos (by rcases hT with rfl |rfl <;> decide)]
 refine wpAny_bind (v7 (A:=A.in1.in1) hT g1 hc hd hn hh fun h1 tk1 k1 sz1=> ?_)
 refine wpAny_ite_true rfl ?_
 refine wpAny_bind (wpAny_rule ?_)
 have sz0:s.heap.objs.size < h1.objs.size:=by
  have:(s.heap.push {cls:=.type "dict",data:=.dict #[]}).objs.size≤h1.objs.size:=sz1
  rw [Heap.size_push] at this;exact this
 have kp1:Kept s.heap h1:=fun b o e=>k1 b o (Heap.get?_push_of_some _ e)
 have lt:a < s.heap.objs.size:=Heap.lt_size g
 have dead:s.heap.get? s.heap.objs.size=none:=by
  cases q:s.heap.get? s.heap.objs.size with
  |none=>rfl
  |some o=>exact absurd (Heap.lt_size q) (Nat.lt_irrefl _)
 have deadI:s.heap.get? h1.objs.size=none:=by
  cases q:s.heap.get? h1.objs.size with
  |none=>rfl
  |some o=>exact absurd (Heap.lt_size q) (Nat.not_lt.mpr (Nat.le_of_lt sz0))
 have fin:∀ (oI:Obj) (St:Nat→Heap→Prop),Walks prog w A.in1.in1 h1.objs.size [h1.objs.size,a] [h1.objs.size] ws.size (fun i v=>ws[i]? =some v) St→St 0 (h1.push oI)→
   codeAny (model prog w) A.in1 (.builtin "dict.update.loop" ⟨[.ref s.heap.objs.size,.ref h1.objs.size,rawInt 0,.none],[]⟩) (wants (fun r s₂=>r=Value.none∧Q (Value.ref s.heap.objs.size) s₂) E) {s with heap:=h1.push oI,toks:=tk1}:=by
  intro oI St W st
  refine D8 (hb:=s.heap) (kvs:=kvs) W (by simp only [List.mem_cons,List.not_mem_nil,or_false,not_or];exact ⟨Nat.ne_of_lt sz0,Nat.ne_of_gt lt⟩) hl (by lia) deadI dead hw ws.size 0 _ rfl (Nat.zero_le _) st (fun b o e=>Heap.get?_push_of_some _ (kp1 b o e)) ?_ ?_
  ·exact (hnew.keep k1).push _
  ·intro h' tk kp dd
   rw [merged_nil_of_nodup kvs hnd] at dd
   exact ⟨rfl,post h' tk kp dd⟩
 have ne:a≠h1.objs.size:=Nat.ne_of_lt (Nat.lt_trans lt sz0)
 rcases hT with rfl |rfl
 ·have hl1:h1.IsList a ws:=⟨o,kp1 _ _ g,hc,n,hd⟩
  refine wpAny_bind (wpAny_pyIter_list hl1 ?_)
  exact wpAny_pure ⟨plainId_quiet f8 _,fin _ _ (Walks.list (A:=A.in1.in1) hh h1.objs.size a ne ws) ⟨⟨_,Heap.get?_push_size _ rfl,rfl,rfl⟩,hl1.push _⟩⟩
 ·have hl1:h1.IsTuple a ws:=⟨o,kp1 _ _ g,hc,n,hd⟩
  refine wpAny_bind (wpAny_pyIter_tuple hl1 ?_)
  exact wpAny_pure ⟨plainId_quiet f8 _,fin _ _ (Walks.tuple (A:=A.in1.in1) hh h1.objs.size a ne ws) ⟨⟨_,Heap.get?_push_size _ rfl,rfl,rfl⟩,hl1.push _⟩⟩
theorem f9:∀ {l:List Int},distinct l=true→l.Nodup
 | [],_=>List.nodup_nil
 |i::l,h=>by
  have h:=Bool.and_eq_true_iff.mp h
  exact List.nodup_cons.mpr ⟨fun q=>by rw [List.contains_iff_mem.mpr q] at h;exact Bool.noConfusion h.1,f9 h.2⟩
inductive PV (knd:KeyKind prog w K) (W:Params) (P:Fz) (h:Heap):List (K × C)→List Value→List (K × Value)→Prop
 |nil:PV knd W P h [] [] []
 |cons (p:K × C) (u v:Value) (l:List (K × C)) (vs:List Value) (kvs:List (K × Value)) (a:hY knd h v (p.1,u)) (c:CR W P p.2 u) (r:PV knd W P h l vs kvs):PV knd W P h (p::l) (v::vs) ((p.1,u)::kvs)
theorem PV.keys {h:Heap} {ps:List (K × C)} {vs:List Value} {kvs:List (K × Value)} (x:PV knd W P h ps vs kvs):kvs.map (·.1)=ps.map (·.1)∧kvs.length=vs.length:=by
 induction x with
 |nil=>exact ⟨rfl,rfl⟩
 |cons p u v l vs kvs a c r ih=>exact ⟨congrArg (p.1::·) ih.1,congrArg Nat.succ ih.2⟩
theorem PV.get {h:Heap} {ps:List (K × C)} {vs:List Value} {kvs:List (K × Value)} (x:PV knd W P h ps vs kvs):∀ (i:Nat) (v:Value),vs[i]? =some v→∃ kv,kvs[i]? =some kv∧hY knd h v kv:=by
 induction x with
 |nil=>exact fun i v e=>nn e
 |cons p u v l vs kvs a c r ih=>
  intro i y e
  rcases i with _ |i
  ·exact ⟨_,rfl,Option.some.inj e ▸ a⟩
  ·exact ih i y e
theorem D9 {k c:C} {key:K} {kf:Value→Prop} (hk:∀ u,CR W P k u→knd.is key u=true) (inh:Inh P s.heap) {v:Value} (t:CR W P (.tup [k,c]) v):∃ u,hY knd s.heap v (key,u)∧CR W P c u:=by
 obtain ⟨a,o,ws,n,rfl,p,hc,hd,cr⟩:=t
 obtain ⟨u1,r1,e1,c1,c2⟩:=cr
 obtain ⟨u2,r2,rfl,cv,hr2⟩:=c2
 have hr2:r2=[]:=hr2
 subst hr2
 have hw:ws= #[u1,u2]:=by rw [← Array.toArray_toList (xs:=ws),e1]
 exact ⟨u2,⟨a,o,u1,n,rfl,inh _ _ p,cls1 hc,hw ▸ hd,hk u1 c1⟩,cv⟩
theorem rG (inh:Inh P s.heap):∀ {ps:List (Int × C)} {vs:List Value},CRs W P (ps.map fun p=>.tup [.int p.1,p.2]) vs→∃ kvs,PV (PySem.intKind prog w) W P s.heap ps vs kvs
 | [],vs,r=>by
  have r:vs=[]:=r
  subst r
  exact ⟨[],.nil⟩
 |p::ps,vs,r=>by
  obtain ⟨v,rest,rfl,t,r⟩:=r
  obtain ⟨u,a,cv⟩:=D9 (knd:=PySem.intKind prog w) (key:=p.1) (kf:=fun _=>True) (fun u h=>by obtain ⟨t,rfl⟩:=h;exact beq_self_eq_true p.1) inh t
  obtain ⟨kvs,h⟩:=rG inh r
  exact ⟨_,.cons p u v ps rest kvs a cv h⟩
theorem EA {h:Heap} {vs:List Value} {kvs:List (Int × Value)} {ps:List (Int × C)} (x:PV (PySem.intKind prog w) W P h ps vs kvs):∀ {es:List DictEntry},Pairs (PySem.intKind prog w) es kvs→(∀ e∈es,∃ k,(PySem.intKind prog w).is k e.key=true∧e.hash=(PySem.intKind prog w).hash k)→(∀ p∈ps,0≤p.1∧p.1 < 1000000)→CRe W P ps es:=by
 induction x with
 |nil=>
  intro es q hk hg
  cases q
  exact rfl
 |cons p u v l vs kvs a c r ih=>
  intro es q hk hg
  cases q with
  | @cons e kv es kvs h1 h2 h3=>
   obtain ⟨t,ht⟩:=Value.isInt_shape h1
   obtain ⟨k',hk1,hk2⟩:=hk e List.mem_cons_self
   have hk':k'=p.1:=(PySem.intKind prog w).inj e.key k' p.1 hk1 h1
   have g:=hg p List.mem_cons_self
   refine ⟨t,u,es,?_,g.1,g.2,c,ih h3 (fun e he=>hk e (List.mem_cons_of_mem _ he)) fun p hp=>hg p (List.mem_cons_of_mem _ hp)⟩
   rcases e with ⟨eh,ek,ev⟩
   rw [show eh=p.1 from hk2.trans ((congrArg hashInt hk').trans (g6 g.1 g.2)),show ek= .int p.1 t from ht,show ev=u from h2]
theorem AV {l:List C} {ps:List (Int × C)} (h:rN l=some ps) (hdis:distinct (ps.map (·.1))=true) (hlen:ps.length≤200) (hg:∀ p∈ps,0≤p.1∧p.1 < 1000000) {u:Value} {Q:Value→Shared→Prop} (hh:A.handled=none) (inh:Inh P s.heap) (lows:2≤s.heap.objs.size) (t:TopR w.params P s.heap (.lst l) u)
  (post:aS w.params P s (.dci ps) Q):wpAny (model prog w) A (call (.type "dict") [u]) Q E s:=by
 rw [fT (g:=fun p:Int × C=>.tup [.int p.1,p.2]) (mF gA) h] at t
 clear h
 obtain ⟨a,o,ws,n,rfl,g,c,d,r⟩:=t
 have hn:=(Prod.mk.inj c).2
 replace c:=cls1 c
 obtain ⟨kvs,x⟩:=rG (prog:=prog) (w:=w) inh r
 have hk:kvs.length≤1000000:=Nat.le_trans (Nat.le_of_eq ((List.length_map (f:=(·.1))).symm.trans ((congrArg List.length x.keys.1).trans (List.length_map _)))) (Nat.le_trans hlen (by decide))
 refine aV (nA (knd:=PySem.intKind prog w) (kvs:=kvs) (.inl rfl) g c d hn hh (x.keys.2.trans Array.length_toList).symm hk (fun i v e=>x.get i v (Array.getElem?_toList ▸ e)) (x.keys.1 ▸ f9 hdis) fun h' tk kp dd sz=> ?_)
 obtain ⟨o',es,ep,g',ex,d',kk,pp,_⟩:=dd
 obtain ⟨oc,od,odt,osl⟩:=o'
 obtain ⟨e1,e2,e3⟩:=ex
 dsimp only at e1 e2 e3 d'
 subst e1;subst e2;subst e3;subst d'
 exact post _ h' tk kp sz ⟨_,es,ep,rfl,.inr ⟨Nat.le_refl _,g'⟩,Nat.ne_of_gt lows,x7 (fun a o e=>.inl e) _ _ (EA x pp (fun e he=>kk e (Array.mem_toList_iff.mp he)) hg)⟩
theorem AW {l:List C} {ps:List (List Nat × C)} (h:rM l=some ps) {u:Value} {Q:Value→Shared→Prop} (hh:A.handled=none) (inh:Inh P s.heap) (lows:2≤s.heap.objs.size) (t:CR w.params P (.tup l) u)
  (post:aS w.params P s (.dcs ps) Q):wpAny (model prog w) A (call (.type "dict") [u]) Q E s:=by
 obtain ⟨a,o,ws,n,rfl,p,c,d,r⟩:=t
 have g:=inh _ _ p
 have hn:=(Prod.mk.inj c).2
 replace c:=cls1 c
 have key:∃ kvs:List (Str × Value),ws.size=kvs.length∧kvs.length≤1000000∧(∀ (i:Nat) (v:Value),ws[i]? =some v→∃ kv,kvs[i]? =some kv∧hY (PySem.strKind prog w) s.heap v kv)∧(kvs.map (·.1)).Nodup∧
   (∀ h':Heap,∀ es:List DictEntry,Pairs (PySem.strKind prog w) es kvs→(∀ e∈es,∃ k,(PySem.strKind prog w).is k e.key=true∧e.hash=(PySem.strKind prog w).hash k)→CRd w.params (Mk P s.heap h') ps es):=by
  rcases l with _ | ⟨c,l⟩
  ·obtain rfl:=Option.some.inj h
   have h0:ws.toList=[]:=r
   refine ⟨[],congrArg List.length h0,Nat.zero_le _,fun i v e=> ?_,List.nodup_nil,fun h' es pp _=> ?_⟩
   ·rw [← Array.getElem?_toList,h0] at e;exact nn e
   ·cases pp;exact rfl
  ·obtain ⟨hl,h⟩:=ifO h
   obtain ⟨p,hp,h⟩:=bM h
   obtain rfl:=Option.some.inj h
   rw [mF gB hp,List.isEmpty_iff.mp hl] at r
   obtain ⟨v,rest,e0,t,hrest⟩:=r
   have hrest:rest=[]:=hrest
   subst hrest
   clear h hp hl
   have hx:∃ y u,hY (PySem.strKind prog w) s.heap v (y,u)∧CR w.params P p.2 u∧y.cps.toList=p.1:=by
    obtain ⟨b,ob,wb,nb,rfl,pb,cb,db,crb⟩:=t
    obtain ⟨u1,r1,e1,⟨y,tk,rfl,hy⟩,c2⟩:=crb
    obtain ⟨u2,r2,rfl,cv,hr2⟩:=c2
    have hr2:r2=[]:=hr2
    subst hr2
    have hw:wb= #[.str y tk,u2]:=by rw [← Array.toArray_toList (xs:=wb),e1]
    exact ⟨y,u2,⟨b,ob,.str y tk,nb,rfl,inh _ _ pb,cls1 cb,hw ▸ db,beq_self_eq_true y⟩,cv,hy⟩
   obtain ⟨y,u,pa,cv,hy⟩:=hx
   refine ⟨[(y,u)],congrArg List.length e0,Nat.succ_le_succ (Nat.zero_le 999999),fun i z e=> ?_,List.nodup_cons.mpr ⟨List.not_mem_nil,List.nodup_nil⟩,fun h' es pp hk=> ?_⟩
   ·rw [← Array.getElem?_toList,e0] at e
    rcases i with _ |i
    ·exact ⟨_,rfl,Option.some.inj e ▸ pa⟩
    ·exact nn e
   ·cases pp with
    | @cons e kv es kvs h1 h2 h3=>
     cases h3
     obtain ⟨t1,ht⟩:=Value.isStrOf_shape h1
     obtain ⟨k',hk1,hk2⟩:=hk e List.mem_cons_self
     have hk':k'=y:=(PySem.strKind prog w).inj e.key k' y hk1 h1
     refine ⟨y,t1,u,[],?_,hy,b9 (fun a o e=>.inl e) _ _ cv,rfl⟩
     rcases e with ⟨eh,ek,ev⟩
     rw [show eh=PyData.keyHash w.params y from hk2.trans (hk' ▸ rfl),show ek= .str y t1 from ht,show ev=u from h2]
 obtain ⟨kvs,hl,hz,hw,hnd,fin⟩:=key
 refine aV (nA (knd:=PySem.strKind prog w) (kvs:=kvs) (.inr rfl) g c d hn hh hl hz hw hnd fun h' tk kp dd sz=> ?_)
 obtain ⟨o',es,ep,g',ex,d',kk,pp,_⟩:=dd
 obtain ⟨oc,od,odt,osl⟩:=o'
 obtain ⟨e1,e2,e3⟩:=ex
 dsimp only at e1 e2 e3 d'
 subst e1;subst e2;subst e3;subst d'
 exact post _ h' tk kp sz ⟨_,es,ep,rfl,.inr ⟨Nat.le_refl _,g'⟩,Nat.ne_of_gt lows,fin h' es.toList pp fun e he=>kk e (by simpa using he)⟩
end
section
variable {prog:Program} {w:World} {A:Around} {E:Value→Shared→Prop} {s:Shared} {P:Fz} {Q:Value→Shared→Prop} {W:Params} {h₀:Heap}
noncomputable def u4 (prog:Program) (w:World) (h₀:Heap):Prop:=∀ {c d:Nat},isC c d=true→∀ {A:Around} {s:Shared} {P:Fz} {Q} {E:Value→Shared→Prop} {u fs},A.handled=none→Kept h₀ s.heap→Inh P s.heap→TopR w.params P s.heap (.ins c fs) u→
 (∀ h' tk,Kept s.heap h'→s.heap.objs.size≤h'.objs.size→Q (.bool (Nat.beq c d)) {s with heap:=h',toks:=tk})→wpAny (model prog w) A (call (.builtin "isinstance") [u,.ref d]) Q E s
section
variable {x:C} {cs:List C} {us:List Value} (ts:Tops (TopR w.params P s.heap) cs us) (post:aS w.params P s x Q)
include ts post
theorem HW (h:iY .min cs=some x) (hh:A.handled=none):wpAny (model prog w) A (call (.builtin "min") us) Q E s:=by
 obtain ⟨c,d,u,v,rfl,h,a,b⟩:=q_2 h ts
 obtain ⟨i,t,rfl,h⟩:=q_I h a
 obtain ⟨j,t',rfl,h⟩:=q_I h b
 obtain rfl:=Option.some.inj h
 exact HS hh post
theorem HX (h:iY .max cs=some x) (hh:A.handled=none):wpAny (model prog w) A (call (.builtin "max") us) Q E s:=by
 rcases ts with _ | ⟨a,ts⟩
 ·exact nn h
 rcases ts with _ | ⟨b,ts⟩
 ·obtain ⟨a,o,ws,n,l,rfl,g,hc,hd,r,h⟩:=q_L h a
  obtain ⟨is,hi,h⟩:=bM h
  rcases is with _ | ⟨i,is⟩
  ·exact nn h
  obtain rfl:=Option.some.inj h
  exact HQ hh g hc hd hi r post
 rcases ts with _ | ⟨_,_⟩
 ·obtain ⟨i,t,rfl,h⟩:=q_I h a
  obtain ⟨j,t',rfl,h⟩:=q_I h b
  obtain rfl:=Option.some.inj h
  exact D7 hh post
 ·exact nn h
theorem HY (I:u4 prog w h₀) (h:iY .isinstance cs=some x) (hh:A.handled=none) (kp:Kept h₀ s.heap) (inh:Inh P s.heap):wpAny (model prog w) A (call (.builtin "isinstance") us) Q E s:=by
 obtain ⟨c,d,u,v,rfl,h,a,b⟩:=q_2 h ts
 obtain ⟨i,fs,rfl,h⟩:=bN h
 obtain ⟨d,rfl,h⟩:=b_O h
 obtain ⟨hcd,rfl⟩:=ifS h
 obtain rfl:v= .ref d:=b
 exact I hcd hh kp inh a fun h' tk k sz=>post _ h' tk k sz rfl
theorem HZ (h:iY .ord cs=some x):wpAny (model prog w) A (call (.builtin "ord") us) Q E s:=by
 obtain ⟨c,u,rfl,h,a⟩:=q_1 h ts
 obtain ⟨y,t,rfl,h⟩:=q_S h a
 obtain ⟨n,hy,h⟩:=bU h
 obtain rfl:=Option.some.inj h
 exact HU hy post
theorem H8 (h:iY .chr cs=some x):wpAny (model prog w) A (call (.builtin "chr") us) Q E s:=by
 obtain ⟨c,u,rfl,h,a⟩:=q_1 h ts
 obtain ⟨i,t,rfl,h⟩:=q_I h a
 obtain ⟨h0,rfl⟩:=ifS h
 exact HT h0 post
theorem H9 (h:iZ .range cs=some x):wpAny (model prog w) A (call (.type "range") us) Q E s:=by
 rcases ts with _ | ⟨a,ts⟩
 ·exact nn h
 rcases ts with _ | ⟨b,ts⟩
 ·obtain ⟨i,t,rfl,h⟩:=q_I h a
  obtain ⟨hb,rfl⟩:=ifS h
  exact call_range_1 (sZ rfl (lY (by decide) (hX hb) (by decide) (by decide)) post)
 rcases ts with _ | ⟨c,ts⟩
 ·obtain ⟨i,t,rfl,h⟩:=q_I h a
  obtain ⟨j,t',rfl,h⟩:=q_I h b
  obtain ⟨hb,rfl⟩:=ifS h
  have hb:=Bool.and_eq_true_iff.mp hb
  exact call_range_2 (sZ rfl (lY (hX hb.1) (hX hb.2) (by decide) (by decide)) post)
 rcases ts with _ | ⟨_,_⟩
 ·obtain ⟨i,t,rfl,h⟩:=q_I h a
  obtain ⟨j,t',rfl,h⟩:=q_I h b
  obtain ⟨k,t',rfl,h⟩:=q_I h c
  obtain ⟨hc,h⟩:=ifN h
  obtain ⟨hb,rfl⟩:=ifS h
  have hb:=Bool.and_eq_true_iff.mp hb
  have hb':=Bool.and_eq_true_iff.mp hb.1
  have:=hX hb.2
  exact call_range_3 hc (sZ rfl (lY (hX hb'.1) (hX hb'.2) (hX hb.2) hc) post) (.inl (PyProof.noPylong_small (by have lm:lim=1000000:=rfl;lia)))
 ·exact nn h
theorem IA (h:iZ .bytes cs=some x) (hh:A.handled=none):wpAny (model prog w) A (call (.type "bytes") us) Q E s:=by
 obtain ⟨c,u,rfl,h,a⟩:=q_1 h ts
 clear ts
 rcases c with _ |_ |_ |_ |l |_ |l |_ |_ |_ |_ |_ |_ |_
 case byt=>
  obtain ⟨b,t,rfl,rfl⟩:=a
  obtain rfl:=Option.some.inj h
  exact mD (opY post s.toks _)
 case lst=>
  obtain ⟨is,hi,h⟩:=bM (show (eF l).bind _=some x from h)
  obtain ⟨hb,rfl⟩:=ifS h
  have hb:=Bool.and_eq_true_iff.mp hb
  obtain ⟨a,o,ws,n,rfl,g,hc,hd,r⟩:=a
  exact AT hh g (cls1 hc) hd hi hb.1 (Nat.le_of_ble_eq_true hb.2) r post
 all_goals exact nn h
theorem IB (h:iZ .list cs=some x) (hh:A.handled=none) (inh:Inh P s.heap):wpAny (model prog w) A (call (.type "list") us) Q E s:=by
 obtain ⟨c,u,rfl,h,a⟩:=q_1 h ts
 clear ts
 rcases c with _ |_ |_ |_ |_ |l |l |_ |_ |_ |_ |_ |_ |_
 case lst=>
  obtain ⟨hz,rfl⟩:=ifS h
  obtain ⟨a,o,ws,n,rfl,g,hc,hd,r⟩:=a
  exact u0 (.inl rfl) g (cls1 hc) hd (cP r ▸ Nat.le_trans (okL_le hz) (by rw [sizeLine_eq];decide)) r post
 case tup=>
  obtain ⟨hz,rfl⟩:=ifS h
  obtain ⟨a,o,ws,n,rfl,g,hc,hd,r⟩:=a
  exact u0 (.inr rfl) (inh _ _ g) (cls1 hc) hd (cP r ▸ Nat.le_trans (okL_le hz) (by rw [sizeLine_eq];decide)) r post
 all_goals exact nn h
theorem IC (h:iZ .tuple cs=some x) (hh:A.handled=none) (inh:Inh P s.heap):wpAny (model prog w) A (call (.type "tuple") us) Q E s:=by
 obtain ⟨c,u,rfl,h,a⟩:=q_1 h ts
 clear ts
 rcases c with _ |_ |_ |_ |_ |l |l |_ |_ |_ |_ |_ |_ |_
 case lst=>
  obtain ⟨hz,rfl⟩:=ifS h
  obtain ⟨a,o,ws,n,rfl,g,hc,hd,r⟩:=a
  exact AR g (cls1 hc) hd (cP r ▸ Nat.le_trans (okL_le hz) (by rw [sizeLine_eq];decide)) r post
 case tup=>
  obtain ⟨hz,rfl⟩:=ifS h
  obtain ⟨a',o,ws,n,rfl,g,hc,hd,r⟩:=id a
  exact call_tuple_tup ⟨o,inh _ _ g,cls1 hc,n,hd⟩ (opC post a)
 all_goals exact nn h
theorem IE (lows:2≤s.heap.objs.size) (h:iZ .dict cs=some x) (hh:A.handled=none) (inh:Inh P s.heap):wpAny (model prog w) A (call (.type "dict") us) Q E s:=by
 obtain ⟨c,u,rfl,h,a⟩:=q_1 h ts
 clear ts
 rcases c with _ |_ |_ |_ |_ |l |l |_ |_ |_ |_ |_ |_ |_
 case tup=>
  obtain ⟨ps,hp,h⟩:=bM (show (rM l).bind _=some x from h)
  obtain rfl:=Option.some.inj h
  exact AW hp hh inh lows a post
 case lst=>
  obtain ⟨ps,hp,h⟩:=bM (show (rN l).bind _=some x from h)
  obtain ⟨hb,rfl⟩:=ifS h
  have hb:=Bool.and_eq_true_iff.mp hb
  have hb':=Bool.and_eq_true_iff.mp hb.1
  exact AV hp hb'.1 (Nat.le_of_ble_eq_true hb'.2) (fun p hp=>of_decide_eq_true (List.all_eq_true.mp hb.2 p hp)) hh inh lows a post
 all_goals exact nn h
theorem IF (h:iZ .str cs=some x):wpAny (model prog w) A (call (.type "str") us) Q E s:=by
 obtain ⟨c,u,rfl,h,a⟩:=q_1 h ts
 obtain ⟨i,t,rfl,h⟩:=q_I h a
 obtain ⟨h0,rfl⟩:=ifS h
 exact HV h0 post
end
theorem IG (I:u4 prog w h₀) {b cs x} (h:iY b cs=some x) {us:List Value} (hh:A.handled=none) (kp:Kept h₀ s.heap) (inh:Inh P s.heap) (ts:Tops (TopR w.params P s.heap) cs us) (post:aS w.params P s x Q):wpAny (model prog w) A (call (.builtin b.nm) us) Q E s:=by
 rcases b with _ |_
 case len=>
  obtain ⟨c,u,rfl,h,a⟩:=q_1 h ts
  exact HR h inh a post
 case min=>exact HW ts post h hh
 case max=>exact HX ts post h hh
 case sorted=>
  obtain ⟨c,u,rfl,h,a⟩:=q_1 h ts
  obtain ⟨l,rfl,_⟩:=bD h
  exact v6 (l:=l) h hh a post
 case isinstance=>exact HY ts post I h hh kp inh
 case ord=>exact HZ ts post h
 case chr=>exact H8 ts post h
theorem IH (lows:2≤s.heap.objs.size) {t cs x} (h:iZ t cs=some x) {us:List Value} (hh:A.handled=none) (kp:Kept h₀ s.heap) (inh:Inh P s.heap) (ts:Tops (TopR w.params P s.heap) cs us) (post:aS w.params P s x Q):wpAny (model prog w) A (call (.type t.nm) us) Q E s:=by
 rcases t with _ |_
 case range=>exact H9 ts post h
 case bytes=>exact IA ts post h hh
 case list=>exact IB ts post h hh inh
 case tuple=>exact IC ts post h hh inh
 case dict=>exact IE ts post lows h hh inh
 case str=>exact IF ts post h
theorem op6 (I:u4 prog w h₀) {o:Obj} (h1:h₀.get? 1=some o):Op6 prog w h₀ where
 blt:=fun h _ _ _ _ _ _ rm kp inh ts post=>IG I h rm.handled kp inh ts post
 typ:=fun h _ _ _ _ _ _ rm kp inh ts post=>IH (h₀:=h₀) (Heap.lt_size (kp _ _ h1)) h rm.handled kp inh ts post
 keepT:=fun t h=>AU t h
end
section
variable {prog:Program} {w:World} {A:Around} {E:Value→Shared→Prop} {s:Shared} {P:Fz} {W:Params} {h₀:Heap} {K:Frag}
theorem II {i:Int} {t:Tok} {Q:Value→Shared→Prop} (h:∀ tk tk',Q (.int (-i) tk) {s with toks:=tk'}):wpAny (model prog w) A (unaryOp .USub (.int i t)) Q E s:=
 PyProof.Rows.neg_int (h _ _)
noncomputable def l3 (K:Frag) (c:Addr) (n:Str):Bool:=
  (clsIn K c).any (·.hasDict) && (findIn K (.ref c) "__getattribute__" == some (some (.builtin "object.__getattribute__")) &&
  (match findIn K (.ref c) n with
   |none=>false
   |some none=>true
   |some (some a)=>match specialIn K a "__get__" with
      |none=>false
      |some none=>true
      |some (some _)=>takesIn K a == some false))
theorem AX {c:Addr} {n:Str} (pre:l3 K c n=true) {od:Obj} {v:Value} (h:lookIn n od=some (some v)):findObj K c (some od) n=some (.value v):=by
 unfold l3 at pre
 rw [Bool.and_eq_true,Bool.and_eq_true] at pre
 obtain ⟨h1,h2,h3⟩:=pre
 obtain ⟨cd,hc,hd⟩:=any_some h1
 have ho:PySem.W.ownOf cd (some od) n=some (some v):=by unfold PySem.W.ownOf;rw [if_pos hd];exact h
 unfold findObj
 rw [hc,Option.bind_some]
 revert h3
 cases findIn K (.ref c) n with
 |none=>intro h3;cases h3
 |some attr=>
  cases attr with
  |none=>intro _;simp [ho]
  |some a=>
   intro h3
   dsimp only at h3
   rw [Option.bind_some]
   dsimp only
   revert h3
   cases specialIn K a "__get__" with
   |none=>intro h3;cases h3
   |some g=>
    cases g with
    |none=>intro _;simp [ho]
    |some g=>
     intro h3
     have h3:=beq_iff_eq.mp h3
     simp [h3,ho]
theorem FC:∀ {fs:List (Nat × C)} {es:List DictEntry} {n:Nat} {x:C},CRf W P fs es→enc (dec n)=n→lk fs n=some x→∃ e v,es.find? (·.key.isStr (dec n))=some e∧e.val=v∧CR W P x v
 | [],es,n,x,r,en,h=>by simp [lk] at h
 | (k,c)::fs,es,n,x,r,en,h=>by
  obtain ⟨t,v,rest,rfl,hk,cr,r⟩:=r
  simp only [lk] at h
  rw [List.find?_cons]
  cases q:Nat.beq k n with
  |true=>
   have:=Nat.eq_of_beq_eq_true q
   subst this
   rw [q] at h
   cases h
   have:Value.isStr (.str (dec k) t) (dec k)=true:=by show (dec k == dec k)=true;simp
   simp only [this]
   exact ⟨_,v,rfl,rfl,cr⟩
  |false=>
   rw [q] at h
   have:Value.isStr (.str (dec k) t) (dec n)=false:=by
    show (dec k == dec n)=false
    refine beq_eq_false_iff_ne.mpr fun e=> ?_
    have:k=n:=by rw [← hk,e,en]
    subst this
    rw [Nat.beq_refl] at q;cases q
   simp only [this]
   exact FC r en h
theorem l4:∀ {fs:List (Nat × C)} {es:List DictEntry} {n:Nat},CRf W P fs es→enc (dec n)=n→lk fs n=none→es.find? (·.key.isStr (dec n))=none∧es.any (·.refKey)=false
 | [],es,n,r,en,h=>by
  have:es=[]:=r
  subst this;exact ⟨rfl,rfl⟩
 | (k,c)::fs,es,n,r,en,h=>by
  obtain ⟨t,v,rest,rfl,hk,cr,r⟩:=r
  simp only [lk] at h
  cases q:Nat.beq k n with
  |true=>rw [q] at h;cases h
  |false=>
   rw [q] at h
   have:Value.isStr (.str (dec k) t) (dec n)=false:=by
    show (dec k == dec n)=false
    refine beq_eq_false_iff_ne.mpr fun e=> ?_
    have:k=n:=by rw [← hk,e,en]
    subst this
    rw [Nat.beq_refl] at q;cases q
   obtain ⟨h1,h2⟩:=l4 r en h
   refine ⟨by rw [List.find?_cons];simp only [this];exact h1,?_⟩
   rw [List.any_cons,h2,Bool.or_false];rfl
theorem handed {x:C} {v:Value} (c:CR W P x v):handedIn v=true:=by
 cases x
 case none=>have:v= .none:=c;subst this;rfl
 case bool b=>have:v= .bool b:=c;subst this;rfl
 case int i=>obtain ⟨t,rfl⟩:=c;rfl
 case str l=>obtain ⟨y,t,rfl,_⟩:=c;rfl
 case byt l=>obtain ⟨y,t,rfl,_⟩:=c;rfl
 case tup l=>obtain ⟨a,o,ws,n,rfl,_⟩:=c;rfl
 case lst l=>obtain ⟨a,o,ws,n,rfl,_⟩:=c;rfl
 case rng a b c'=>obtain ⟨r,ta,tb,tc,rfl,_⟩:=c;rfl
 case dcs l=>obtain ⟨a,es,n,rfl,_⟩:=c;rfl
 case dci l=>obtain ⟨a,es,n,rfl,_⟩:=c;rfl
 case ins c' l=>obtain ⟨a,d,sl,es,n,rfl,_⟩:=c;rfl
 case obj a=>have:v= .ref a:=c;subst this;rfl
 case typ t=>have:v= .type t.nm:=c;subst this;rfl
 case blt b=>have:v= .builtin b.nm:=c;subst this;cases b <;> decide+kernel
theorem oY {h:Heap} {x d c:Addr} {sl:Array (Option Value)} {es:Array DictEntry} {n:Nat} (g:h.get? x=some ⟨.ref c,some d,.plain,sl⟩) (gd:h.get? d=some (dO es n)):InstAt h x ⟨.ref c,some d,.plain,sl⟩ c (some (dO es n)):=⟨g,rfl,rfl,gd⟩
theorem IJ (X:K.In h₀) {c n:Nat} {fs:List (Nat × C)} {x:C} (pre:l3 K c (dec n)=true) (en:enc (dec n)=n) (h:lk fs n=some x) {u:Value} {Q:Value→Shared→Prop} (kp:Kept h₀ s.heap) (inh:Inh P s.heap) (t:TopR w.params P s.heap (.ins c fs) u) (post:aS w.params P s x Q):
  wpAny (model prog w) A (getAttr u (dec n) true) Q E s:=by
 obtain ⟨a,d,sl,es,m,rfl,g,gd,r⟩:=t
 obtain ⟨e,v,he,rfl,cr⟩:=FC r en h
 have hl:lookIn (dec n) (dO es m)=some (some e.val):=by
  unfold lookIn dO
  dsimp only
  rw [he]
 have hga:findIn K (.ref c) "__getattribute__"=some (some (.builtin "object.__getattribute__")):=by
  unfold l3 at pre
  rw [Bool.and_eq_true,Bool.and_eq_true] at pre
  exact beq_iff_eq.mp pre.2.1
 refine get_value (X.keeps kp) (oY g gd) hga (AX pre hl) (handed cr) ?_
 exact post _ s.heap _ (fun _ _ e=>e) (Nat.le_refl _) (b9 (fun a o e=>.inl e) _ _ cr)
noncomputable def rH (K:Frag) (c:Addr) (m:Str) (f:Addr):Bool:=
 findIn K (.ref c) "__getattribute__" == some (some (.builtin "object.__getattribute__")) && (findIn K (.ref c) "__getattr__" == some none && (findIn K (.ref c) m == some (some (.ref f)) && typeIn K (.ref f) == some (.type "function")))
theorem IK (X:K.In h₀) {c m f:Nat} {fs:List (Nat × C)} (pre:rH K c (dec m) f=true) (en:enc (dec m)=m) (h:lk fs m=none) {u:Value} {pl:Sem Bool} {Q:Value × List Value→Shared→Prop} (kp:Kept h₀ s.heap) (t:TopR w.params P s.heap (.ins c fs) u) (q:Q (.ref f,[u]) s):
  wpAny (model prog w) A (getMethod u (dec m) pl) Q E s:=by
 obtain ⟨a,d,sl,es,k,rfl,g,gd,r⟩:=t
 unfold rH at pre
 rw [Bool.and_eq_true,Bool.and_eq_true,Bool.and_eq_true] at pre
 obtain ⟨h1,h2,h3,h4⟩:=pre
 refine method_fn (X.keeps kp) (oY g gd) (beq_iff_eq.mp h1) (beq_iff_eq.mp h2) (beq_iff_eq.mp h3) (beq_iff_eq.mp h4) ?_ q
 obtain ⟨n1,n2⟩:=l4 r en h
 unfold shadowIn lookIn dO
 dsimp only
 rw [n1,n2];rfl
end
section
variable {prog:Program} {w:World} {A:Around} {E:Value→Shared→Prop} {s:Shared} {P:Fz} {W:Params} {h₀:Heap} {K:Frag}
theorem u5 {a:Str} {x:C} {u:Value} {tk:Tok} (ea:dec (enc a)=a) (cx:CR W P x u):∀ {fs:List (Nat × C)} {es:List DictEntry},CRf W P fs es→
  (match es.findIdx? (fun e=>e.key.isStr a) with
  |some i=>CRf W P (put (enc a) x fs) (es.modify i fun e=>{e with val:=u})
  |none=>CRf W P (put (enc a) x fs) (es++[⟨PyData.keyHash W a,.str a tk,u⟩]))
 | [],es,r=>by
  have:es=[]:=r
  subst this
  refine ⟨tk,u,[],?_,by rw [ea],cx,rfl⟩
  rw [ea];rfl
 | (k,c)::fs,es,r=>by
  obtain ⟨t,v,rest,rfl,hk,cr,r⟩:=r
  have ih:=u5 (tk:=tk) ea cx r
  rw [List.findIdx?_cons]
  simp only [put]
  cases q:Nat.beq k (enc a) with
  |true=>
   have e:=Nat.eq_of_beq_eq_true q
   have:Value.isStr (.str (dec k) t) a=true:=by show (dec k == a)=true;rw [e,ea];simp
   rw [this]
   simp only [if_true]
   refine ⟨t,u,rest,?_,by rw [ea],cx,r⟩
   rw [← e];rfl
  |false=>
   have:Value.isStr (.str (dec k) t) a=false:=by
    show (dec k == a)=false
    refine beq_eq_false_iff_ne.mpr fun e=> ?_
    rw [← e,hk,Nat.beq_refl] at q;cases q
   rw [this]
   simp only [Bool.false_eq_true,if_false]
   cases hf:rest.findIdx? (fun e=>e.key.isStr a) with
   |none=>
    rw [hf] at ih
    exact ⟨t,v,_,rfl,hk,cr,ih⟩
   |some i=>
    rw [hf] at ih
    exact ⟨t,v,_,rfl,hk,cr,ih⟩
theorem u6:∀ {fs:List (Nat × C)} {es:List DictEntry},CRf W P fs es→es.length=fs.length
 | [],es,r=>by have:es=[]:=r;subst this;rfl
 | (k,c)::fs,es,r=>by
  obtain ⟨t,v,rest,rfl,hk,cr,r⟩:=r
  simp [u6 r]
theorem nB:∀ {fs:List (Nat × C)} {es:List DictEntry},CRf W P fs es→es.any (·.refKey)=false
 | [],es,r=>by have:es=[]:=r;subst this;rfl
 | (k,c)::fs,es,r=>by
  obtain ⟨t,v,rest,rfl,hk,cr,r⟩:=r
  rw [List.any_cons,nB r,Bool.or_false];rfl
theorem EB {a:Str} {x:C} {u:Value} {tk:Tok} {fs:List (Nat × C)} {es:Array DictEntry} {n:Nat} (ea:dec (enc a)=a) (cx:CR W P x u) (r:CRf W P fs es.toList) (hz:fs.length≤30):
  ∃ es' n',Obj.putName a (PyData.keyHash W a) (.str a tk) u (dO es n)=dO es' n'∧CRf W P (put (enc a) x fs) es'.toList∧es'.size≤31:=by
 have h:=u5 (tk:=tk) ea cx r
 have hl:=u6 r
 rw [Array.length_toList] at hl
 rw [Obj.putName_eq]
 unfold Obj.putNameByArray dO
 dsimp only
 have hi:es.findIdx? (fun e=>e.key.isStr a)=es.toList.findIdx? (fun e=>e.key.isStr a):=by obtain ⟨l⟩:=es;simp
 rw [hi]
 cases q:es.toList.findIdx? (fun e=>e.key.isStr a) with
 |none=>
  rw [q] at h
  exact ⟨es.push ⟨PyData.keyHash W a,.str a tk,u⟩,n+1,rfl,by rw [Array.toList_push];exact h,by rw [Array.size_push];lia⟩
 |some i=>
  rw [q] at h
  exact ⟨es.modify i fun e=>{e with val:=u},n,rfl,by rw [Array.toList_modify];exact h,by rw [Array.size_modify];lia⟩
noncomputable def l5 (K:Frag) (c:Addr) (n:Str):Bool:=
 (findIn K (.ref c) "__setattr__" == some (some (.builtin "object.__setattr__"))) && (plainOver K c && (takerIn K c n == some none && (clsIn K c).any (·.hasDict)))
theorem IL (X:K.In h₀) {c:Nat} {fs:List (Nat × C)} {a:Str} {x:C} (pre:l5 K c a=true) (hz:fs.length≤30) (ok:a6 a=true) {Q:Unit→Shared→Prop} {o d:Addr} {es:Array DictEntry} {n:Nat} {u:Value} (kp:Kept h₀ s.heap)
  (g:s.heap.get? o=some ⟨.ref c,some d,.plain,#[]⟩) (gd:s.heap.get? d=some (dO es n)) (r:CRf w.params P fs es.toList) (cx:CR w.params P x u)
  (post:∀ h' es' n' tk,h'.get? d=some (dO es' n')→(∀ b,b≠d→h'.get? b=s.heap.get? b)→h'.objs.size=s.heap.objs.size→CRf w.params P (put (enc a) x fs) es'.toList→Q () {s with heap:=h',toks:=tk}):
  wpAny (model prog w) A (setAttr (.ref o) a u) Q E s:=by
 obtain ⟨hp,gn,dr,tk0,os⟩:=s
 dsimp only at g gd post kp
 have X':=X.keeps kp
 unfold l5 at pre
 rw [Bool.and_eq_true,Bool.and_eq_true,Bool.and_eq_true] at pre
 obtain ⟨h1,h2,h3,h4⟩:=pre
 obtain ⟨cd,hc,hd'⟩:=any_some h4
 have I:=oY g gd
 refine set_plain X' I (beq_iff_eq.mp h1) ?_
 refine osa_open X' (s:=⟨hp,gn,dr,tk0+1,os⟩) I h2 (beq_iff_eq.mp h3) fun b=> ?_
 refine wpAny_bind (wpAny_pure (wpAny_bind (wpAny_bind (wpAny_loadPart g (wpAny_bind ((looks_clsIn X' hc).here ?_))))))
 rw [hd']
 refine wpAny_pure (a:=some d) (wpAny_bind (wpAny_pure (wpAny_bind ?_)))
 unfold nsSet
 refine wpAny_bind (wpAny_bind (wpAny_askSetting (wpAny_pure (wpAny_bind (wpAny_mkText (wpAny_bind (wpAny_loadPart gd ?_)))))))
 obtain ⟨es',n',e',r',hz'⟩:=EB (tk:=tk0+1) (n:=n) (bP ok).1 cx r hz
 unfold dO
 dsimp only
 have cc:(!es.any (·.key.isStr a) && es.any (·.refKey))=false:=by
  rw [← Array.any_toList (p:=fun x:DictEntry=>x.refKey),nB r,Bool.and_false]
 rw [aRefKeyMayBeTheName_at,cc]
 refine wpAny_updatePart gd ?_
 have D':=Heap.get?_update_self (Obj.putName a (PyData.keyHash w.params a) (.str a (tk0+1)) u) gd (by rw [e'];rfl)
 rw [e'] at D'
 refine wpAny_bind (wpAny_lookBehind D' (pastItsLine_dict (by rw [sizeLine_eq];lia)) ?_)
 refine wpAny_pure ?_
 exact post _ es' n' _ D' (fun b hb=>Heap.get?_update_other _ _ (Ne.symm hb)) (Heap.size_update ..) r'
theorem IM {Q:Unit→Shared→Prop} {a:Addr} {ws:Array Value} {n:Nat} {u:Value} {i:Int} {t:Tok} {j:Nat} (h:ixS i ws.size=some j) (g:s.heap.get? a=some ⟨.type "list",none,.seq ws n,#[]⟩)
  (post:∀ h' n' tk,h'.get? a=some ⟨.type "list",none,.seq (ws.setIfInBounds j u) n',#[]⟩→(∀ b,b≠a→h'.get? b=s.heap.get? b)→h'.objs.size=s.heap.objs.size→Q () {s with heap:=h',toks:=tk}):
  wpAny (model prog w) A (setItem (.ref a) (.int i t) u) Q E s:=by
 unfold ixS at h
 split at h
 case isFalse=>cases h
 rename_i hi
 cases h
 obtain ⟨h0,h1,h2⟩:=hi
 have hl:s.heap.IsList a ws:=⟨_,g,rfl,n,rfl⟩
 unfold setItem
 try with_reducible refine wpAny_holding ?_
 first |refine wpAny_bind (wpAny_pure ?_) |skip
 refine wpAny_bind (wpAny_sequenceKey hl.typeIs (by decide) ?_)
 refine wpAny_bind (wpAny_callSpecial?_slot (name:=Str.ofString "__setitem__") hl.typeIs PySem.slot_list_setitem
  (wpAny_call_entry PySem.slot_list_setitem hl.typeIs PySem.entry_list_setitem ?_ (PySem.args_list_setitem _ _ _)))
 show wpAny _ _ (Builtin.List.listSubscript? (.int i t) >>=_) _ _ s
 refine wpAny_bind (wpAny_listSubscript_int (fitsIndex_of h0 (by lia)) ?_)
 obtain ⟨j,rfl⟩:=Int.eq_ofNat_of_zero_le h0
 have hj:j < ws.size:=by lia
 have hx':ws[j]? =some ws[j]:=Array.getElem?_eq_getElem hj
 show wpAny _ _ ((seqItemAt a j >>=fun r=>pure (r.map (j,·))) >>=_) _ _ s
 refine wpAny_bind (wpAny_bind (wpAny_seqItemAt g rfl (wpAny_pure ?_)))
 rw [hx']
 show wpAny _ _ (setSeqItemAt a j u >>=_) _ _ s
 refine wpAny_bind (wpAny_setSeqItemAt g rfl ?_)
 have hu:=Heap.get?_update_self (Obj.mapSeq (·.setIfInBounds j u)) g rfl
 have fin:=post _ _ s.toks hu (fun b hb=>Heap.get?_update_other _ _ (Ne.symm hb)) (Heap.size_update ..)
 first
  |exact wpAny_bind (wpAny_pure (wpAny_pure ⟨.none,rfl,wpAny_pure fin⟩))
  |exact wpAny_pure ⟨.none,rfl,wpAny_pure fin⟩
end
section
variable {prog:Program} {w:World} {A:Around} {E:Value→Shared→Prop} {s:Shared} {P:Fz} {W:Params} {h₀:Heap} {K:Frag}
noncomputable def oZ (K:Frag) (c d:Addr):Bool:=kin_not K c d && (plainGet K c "__class__" && (hasDictIn K c && (findIn K (.ref c) "__class__" == some (some (.builtin "object.__class__")) && (specialIn K (.builtin "object.__class__") "__get__" == some (some (.builtin "getset_descriptor.__get__")) &&
 (takesIn K (.builtin "object.__class__") == some true && mroIn K c (.type "object") == some true)))))
theorem IN (X:K.In h₀) (hall:∀ c d,isC c d=true→c≠d→oZ K c d=true):u4 prog w h₀:=by
 intro c d hcd A s P Q E u fs hh kp inh t post
 obtain ⟨a,dx,sl,es,m,rfl,g,gd,r⟩:=t
 have X':=X.keeps kp
 have I:=oY g gd
 by_cases e:c=d
 ·subst e
  refine isi_call X' (fun M=>I.type) (by unfold isIn;simp) (by intro q;cases q) ?_
  have:=post s.heap s.toks (fun _ _ e=>e) (Nat.le_refl _)
  rw [Nat.beq_refl] at this
  exact this
 ·have h:=hall c d hcd e
  unfold oZ at h
  simp only [Bool.and_eq_true,beq_iff_eq] at h
  obtain ⟨h1,h2,h3,h4,h5,h6,h7⟩:=h
  refine kin_callC X' I h1 h2 h3 h4 h5 h6 h7 ?_
  have:=post s.heap (s.toks+1) (fun _ _ e=>e) (Nat.le_refl _)
  rw [show Nat.beq c d=false by
   cases q:Nat.beq c d with
   |false=>rfl
   |true=>exact absurd (Nat.eq_of_beq_eq_true q) e] at this
  exact this
noncomputable def g8 (K:Frag) (c f:Addr):Bool:=makesIn K c && (findIn K (.ref c) "__init__" == some (some (.ref f)) && typeIn K (.ref f) == some (.type "function"))
theorem iA (X:K.In h₀) {c f:Addr} (h:g8 K c f=true):ClsOk prog w h₀ c f where
 mk_:=by
  intro A s R us kp hq
  unfold g8 at h
  simp only [Bool.and_eq_true,beq_iff_eq] at h
  obtain ⟨h1,h2,h3⟩:=h
  have X':=X.keeps kp
  obtain ⟨hh,g,d,t,os⟩:=s
  exact make_core (makes_of X' h1) (looks_findIn X' h2) (fun self=>bind_fn X' self h3) (.inl rfl) hq
theorem IO (X:K.In h₀) {T:Tb} (ha:∀ {c n},pB T c n=true→l3 K c (dec n)=true∧enc (dec n)=n) (hm:∀ {c m a},T.me c m=some a→rH K c (dec m) a=true∧enc (dec m)=m):Op1 prog w h₀ T where
 bin:=fun h _ _ _ _ _ _ _ hu _ inh ta tb post=>G9 h inh ta tb post
 neg:=fun h=>II h
 cmp:=fun h _ _ _ _ _ _ _ hu _ inh ta tb post=>DW h hu inh ta tb post
 tru:=fun h _ _ _ _ _ _ _ inh t post=>DV h t post
 atr:=fun hc hl _ _ _ _ _ _ kp inh t post=>IJ X (ha hc).1 (ha hc).2 hl kp inh t post
 idx:=fun h _ _ _ _ _ _ _ _ inh ta tb post=>HD h inh ta tb post
 sli:=fun h _ _ _ _ _ _ _ _ _ inh t ta tb post=>HE h inh t ta tb post
 gmf:=fun hme hl _ _ _ _ _ _ _ kp _ t q=>IK X (hm hme).1 (hm hme).2 hl kp t q
theorem AY (X:K.In h₀) {T:Tb} (hs:∀ {c n},jT T c n=true→l5 K c (dec n)=true):Op3 prog w h₀ T where
 sat:=fun hok hz ok _ _ _ _ _ _ _ _ _ _ kp _ g gd r cx post=>IL X (by have:=hs hok;rwa [(bP ok).1] at this) hz ok kp g gd r cx post
 sil:=fun h g post=>IM h g post
 sid:=fun hl hd ne inh g r cx post=>HI hl hd ne g r cx post
end
end Mine
end
section
open PySem PySem.W PySem.Calls PyProof.Rows
namespace Mine
noncomputable section
noncomputable abbrev pw:Program:=PySem.Challenge.pw_no0399_01
noncomputable abbrev TW:=PySem.W.Fast.tw10110043849684766642
noncomputable abbrev TB:=PySem.W.Fast.tw14364793385576792824
noncomputable def IP:List Stmt→Nat→Stmt
 | [],_=>.Pass ⟨0,0,0,0⟩
 |s::_,0=>s
 |_::l,n+1=>IP l n
noncomputable def sN (i:Nat):Stmt:=IP pw.main.body i
noncomputable def mN (i j:Nat):Stmt:=match sN i with
 | .ClassDef _ _ _ b _ _ _ _ _ _ _=>IP b j
 |s=>s
noncomputable def seg (a n:Nat):List Stmt:=(pw.main.body.drop a).take n
noncomputable abbrev vs (x:String) (t:Nat):Value:=.str (Str.ofString x) t
noncomputable def fA (s:Stmt) (q:String):Obj:=match s with
 | .FunctionDef n a b _ _ _ sc _ _ _=>⟨.none,none,.func {name:=n,qualname:=Str.ofString q,params:=a,body:=.stmts b,scope:=sc,globals:=0,closure:=[],defaults:=.none,kwdefaults:=.none},#[]⟩
 |_=>⟨.none,none,.freed,#[]⟩
noncomputable def fB (s:Stmt) (q:String) (dv md cd:Value):Obj:=match s with
 | .FunctionDef n a b _ _ _ sc _ _ _=>⟨.type "function",none,.func {name:=n,qualname:=Str.ofString q,params:=a,body:=.stmts b,scope:=sc,globals:=3,closure:=[],defaults:=dv,kwdefaults:=.none,pyModule:=md,code:=cd},#[]⟩
 |_=>⟨.none,none,.freed,#[]⟩
noncomputable def de (P:Params) (x:String) (t:Nat) (v:Value):DictEntry:=⟨PyData.keyHash P (Str.ofString x),.str (Str.ofString x) t,v⟩
noncomputable abbrev tE:Obj:=⟨(.type "tuple"),none,(.seq #[] 0),#[]⟩
noncomputable abbrev fE:Obj:=⟨.none,none,(.fields #[]),#[]⟩
noncomputable def nL:List String→Nat→List Value
 | [],_=>[]
 |x::l,t=>vs x t::nL l (t+1)
noncomputable def nT (l:List String) (t:Nat):Obj:=⟨(.type "tuple"),none,(.seq (nL l t).toArray 0),#[]⟩
noncomputable def kyQ (q r:String) (t L n a:Nat) (X Y Z:Value) (u:Nat):Obj:=⟨(.type "code"),none,(.fields #[(vs q t),(vs r (t+1)),(vs "/claim/cut.py" (t+2)),(.int L 0),(.int n 0),(.int 0 0),(.int 0 0),(.int 3 0),(.ref a),(.bool true),(.int 181 0),(.ref (a+1)),.none,X,Y,Z,(.int u 0),(.int L 0),(vs "/claim/cut.py" (u+1))]),#[]⟩
noncomputable def kyR (q r:String) (t L n a x u:Nat):Obj:=kyQ q r t L n a (.ref x) (.ref (x+1)) (.ref (x+2)) u
noncomputable def kyA (q:String) (t L n a z u:Nat):Obj:=kyQ q q t L n a .none .none (.ref z) u
noncomputable def kyB (q:String) (t L n a x u:Nat):Obj:=kyR q q t L n a x u
noncomputable abbrev aO (i:Nat) (q:String):Obj:=fA (sN i) q
noncomputable abbrev bO (i:Nat) (q:String) (m:Value) (c:Nat):Obj:=fB (sN i) q .none m (.ref c)
noncomputable def fV (i:Nat) (q:String) (ns:List String) (t L n a:Nat) (m:Value):List Obj:=[tE,fE,nT ns (t+3),tE,aO i q,kyB q t L n a (a+2) (t+3+ns.length),bO i q m (a+5)]
noncomputable def fU (i:Nat) (q:String) (t L n a:Nat) (m:Value):List Obj:=[tE,fE,aO i q,kyA q t L n a (a+2) (t+3),bO i q m (a+3)]
noncomputable def tR:List (Nat × Nat)→List Value
 | []=>[]
 |p::l=>.int p.1 0:: .int 0 0:: .ref p.2::tR l
noncomputable abbrev dr (P:Params) (x:String) (t n:Nat):DictEntry:=de P x t (.ref n)
noncomputable abbrev m0_:Value:=(vs "postkeep.build" 1405)
noncomputable abbrev m1_:Value:=(vs "postkeep.params" 837)
noncomputable abbrev m2_:Value:=(vs "postkeep.headers" 492)
noncomputable abbrev m3_:Value:=(vs "postkeep.octets" 338)
noncomputable abbrev m4_:Value:=(vs "postkeep.parts" 1270)
noncomputable abbrev m5_:Value:=(vs "postkeep.charsets" 644)
noncomputable abbrev m6_:Value:=(vs "postkeep.errors" 264)
noncomputable abbrev m7_:Value:=(vs "postkeep.quoted" 1141)
noncomputable abbrev m8_:Value:=(vs "postkeep.base64" 194)
noncomputable abbrev m9_:Value:=(vs "law_no0399_01" 1701)
noncomputable abbrev v8:Value:=(vs "postkeep.tokens" 775)
noncomputable def eB (P:Params):List DictEntry:=match (boot_o_3 P).data with
 | .dict es _=>es.toList
 |_=>[]
noncomputable def K5 (i:Nat) (v:Value):Nat→List DictEntry→List DictEntry
 |_,[]=>[]
 |k,e::l=>(match Nat.beq k i with |true=>{e with val:=v} |false=>e)::K5 i v (k+1) l
noncomputable def upE:List (Nat × Value)→List DictEntry→List DictEntry
 | [],l=>l
 |p::r,l=>upE r (K5 p.1 p.2 0 l)
noncomputable def K6 (i:Nat) (v:Obj):Nat→List Obj→List Obj
 |_,[]=>[]
 |k,e::l=>match Nat.beq k i with
  |true=>v::l
  |false=>e::K6 i v (k+1) l
noncomputable def upL:List (Nat × Obj)→List Obj→List Obj
 | [],l=>l
 |p::r,l=>upL r (K6 p.1 p.2 0 l)
noncomputable def alt:Bool→List Obj→List Obj
 |_,[]=>[]
 |true,a::l=>a::alt false l
 |false,_::l=>alt true l
noncomputable def mkT:Nat→List Obj→BT
 |0,_=>.nil
 |n+1,l=>match l with
  | []=>.nil
  |o::l=>.node o (mkT n (alt true l)) (mkT n (alt false l))
noncomputable def cR:Env:={scope:=pw.main.scope,locals:=mainNs,globals:=mainNs,cells:=[],code:=.ref 13,frame:=some 14}
noncomputable def o12:Obj:=⟨.none,none,.fields #[],#[]⟩
noncomputable def o13:Obj:=⟨(.type "code"),none,(.fields #[(vs "<module>" 182),(vs "<module>" 183),(vs "/claim/cut.py" 184),(.int 1 0),(.int 0 0),(.int 0 0),(.int 0 0),(.int 0 0),(.ref 11),(.bool false),(.int 181 0),(.ref 12),.none,.none,.none,.none,(.int 185 0),(.int 1 0),(vs "/claim/cut.py" 186)]),#[]⟩
noncomputable def o14:Obj:=⟨(.type "frame"),none,.plain,#[(some (.ref 13)),(some (.ref 3)),(some (.ref 3)),none,(some (vs "__main__" 164)),none,(some (.ref 0))]⟩
noncomputable def L1 (P:Params):List Obj:=[boot_o_0 P,boot_o_1 P,boot_o_2 P,boot_o_3 P,boot_o_4 P,boot_o_5 P,boot_o_6 P,boot_o_7 P,boot_o_8 P,boot_o_9 P,boot_o_10 P,tE,o12,o13,o14]
noncomputable def S1 (w:World) (os:OsState):SharedT:=⟨mkT 12 (L1 w.params),15,{},⟨[]⟩,{},187,os⟩
noncomputable def K7 (P:Params):Obj:=⟨.none,none,(.dict #[de P "type.__subclasses__.Exception.0" 302 (.int 95 0),de P "type.__subclasses__.Exception.n" 303 (.int 1 0)] 2),#[]⟩
noncomputable def FD (P:Params):List DictEntry:=List.append (upE [(0,m6_)] (eB P)) [dr P "_wall" 193 21,de P "SIGNS" 197 (.bytes #[65,66,67,68,69,70,71,72,73,74,75,76,77,78,79,80,81,82,83,84,85,86,87,88,89,90,97,98,99,100,101,102,103,104,105,106,107,108,109,110,111,112,113,114,115,116,117,118,119,120,121,122,48,49,50,51,52,53,54,55,56,57,43,47] 196),de P "PAD" 199 (.int 61 198),de P "LINE_END" 201 (.bytes #[13,10] 200),dr P "worth_table" 207 26,dr P "group_codes" 213 31,dr P "group_octets" 219 36,dr P "part_encoded" 229 43,dr P "one_line" 236 50,dr P "in_lines" 242 55,dr P "encoded" 251 63,dr P "decoded" 263 70,dr P "PostError" 305 95,dr P "WordFault" 321 108,dr P "MimeFault" 337 120]
noncomputable def NM (P:Params):Obj:=⟨.type "dict",none,.dict (FD P).toArray 24,#[]⟩
noncomputable def eo12_2:List Value:=List.append [] (tR [(1,20),(8,25),(10,30),(17,35),(25,42),(30,49),(32,54),(36,62),(38,69),(52,76),(61,104),(63,116)])
noncomputable def K8:Obj:=⟨.none,none,.fields eo12_2.toArray,#[]⟩
noncomputable def o56:Obj:=⟨(.type "tuple"),none,(.seq #[(.int 76 243)] 0),#[]⟩
noncomputable def o62:Obj:=kyB "encoded" 244 36 2 57 59 249
noncomputable def o63:Obj:=fB (sN 11) "encoded" (.ref 56) m8_ (.ref 62)
noncomputable def o71:Obj:=⟨(.type "tuple"),none,(.seq #[(.type "Exception")] 0),#[]⟩
noncomputable def o72:Obj:=⟨(.type "builtin_function_or_method"),none,(.fields #[(.builtin "type.__prepare__"),(.type "type")]),#[]⟩
noncomputable def o73 (P:Params):Obj:=⟨(.type "dict"),none,(.dict #[de P "__module__" 273 m6_,de P "__qualname__" 275 (vs "PostError" 274),de P "__firstlineno__" 277 (.int 52 276),de P "__init__" 288 (.ref 85),de P "told" 295 (.ref 92),de P "__static_attributes__" 298 (.ref 93)] 6),#[]⟩
noncomputable def o75:Obj:=⟨.none,none,(.fields #[(.int 54 0),(.int 4 0),(.ref 84),(.int 59 0),(.int 4 0),(.ref 91)]),#[]⟩
noncomputable def o76:Obj:=⟨(.type "code"),none,(.fields #[(vs "PostError" 268),(vs "PostError" 269),(vs "/claim/cut.py" 270),(.int 52 0),(.int 0 0),(.int 0 0),(.int 0 0),(.int 0 0),(.ref 74),(.bool false),(.int 181 0),(.ref 75),.none,.none,.none,.none,(.int 271 0),(.int 52 0),(vs "/claim/cut.py" 272)]),#[]⟩
noncomputable def o77:Obj:=⟨(.type "frame"),none,.plain,#[(some (.ref 76)),(some (.ref 3)),(some (.ref 73)),none,(some m6_),none,(some (.ref 0))]⟩
noncomputable def o78:Obj:=⟨(.type "tuple"),none,(.seq #[(.int (-1) 279)] 0),#[]⟩
noncomputable def o94 (P:Params):Obj:=⟨(.type "dict"),none,(.dict #[de P "__module__" 273 m6_,de P "__firstlineno__" 277 (.int 52 276),de P "__init__" 288 (.ref 85),de P "told" 295 (.ref 92),de P "__static_attributes__" 298 (.ref 93),de P "__weakref__" 300 (.ref 96),de P "__doc__" 301 .none] 3),#[]⟩
noncomputable def o95:Obj:=⟨(.type "type"),none,(.cls {name:="PostError",bases:=[(.type "Exception")],mro:=[(.ref 95),(.type "Exception"),(.type "BaseException"),(.type "object")],ns:=94,qualname:="PostError",hasDict:=true,slotNames:=[],subclasses:=[(.ref 108),(.ref 120)],abstract:=false,collection:=none,hasDel:=false}),#[(some (.ref 71)),none,(some (vs "PostError" 266)),(some (vs "PostError" 274)),(some (.builtin "Exception.__new__")),(some (.bool true))]⟩
noncomputable def o96:Obj:=⟨(.type "getset_descriptor"),none,(.fields #[(vs "__weakref__" 299),(.ref 95),(.builtin "ExceptionGroup.__weakref__"),.none]),#[]⟩
noncomputable def o97:Obj:=⟨(.type "super"),none,(.fields #[(.ref 95),(.ref 95),(.ref 95)]),#[]⟩
noncomputable def o98:Obj:=⟨(.type "builtin_function_or_method"),none,(.fields #[(.builtin "object.__init_subclass__"),(.ref 95)]),#[]⟩
noncomputable def o99:Obj:=⟨(.type "tuple"),none,(.seq #[(.ref 95)] 0),#[]⟩
noncomputable def o100:Obj:=⟨(.type "builtin_function_or_method"),none,(.fields #[(.builtin "type.__prepare__"),(.type "type")]),#[]⟩
noncomputable def o101 (P:Params):Obj:=⟨(.type "dict"),none,(.dict #[de P "__module__" 313 m6_,de P "__qualname__" 315 (vs "WordFault" 314),de P "__firstlineno__" 317 (.int 61 316),de P "__static_attributes__" 318 (.ref 106)] 4),#[]⟩
noncomputable def o104:Obj:=⟨(.type "code"),none,(.fields #[(vs "WordFault" 308),(vs "WordFault" 309),(vs "/claim/cut.py" 310),(.int 61 0),(.int 0 0),(.int 0 0),(.int 0 0),(.int 0 0),(.ref 102),(.bool false),(.int 181 0),(.ref 103),.none,.none,.none,.none,(.int 311 0),(.int 61 0),(vs "/claim/cut.py" 312)]),#[]⟩
noncomputable def o105:Obj:=⟨(.type "frame"),none,.plain,#[(some (.ref 104)),(some (.ref 3)),(some (.ref 101)),none,(some m6_),none,(some (.ref 0))]⟩
noncomputable def o107 (P:Params):Obj:=⟨(.type "dict"),none,(.dict #[de P "__module__" 313 m6_,de P "__firstlineno__" 317 (.int 61 316),de P "__static_attributes__" 318 (.ref 106),de P "__doc__" 319 .none] 2),#[]⟩
noncomputable def o108:Obj:=⟨(.type "type"),none,(.cls {name:="WordFault",bases:=[(.ref 95)],mro:=[(.ref 108),(.ref 95),(.type "Exception"),(.type "BaseException"),(.type "object")],ns:=107,qualname:="WordFault",hasDict:=true,slotNames:=[],subclasses:=[],abstract:=false,collection:=none,hasDel:=false}),#[(some (.ref 99)),none,(some (vs "WordFault" 306)),(some (vs "WordFault" 314)),(some (.builtin "Exception.__new__")),(some (.bool true))]⟩
noncomputable def o109:Obj:=⟨(.type "super"),none,(.fields #[(.ref 108),(.ref 108),(.ref 108)]),#[]⟩
noncomputable def o110:Obj:=⟨(.type "builtin_function_or_method"),none,(.fields #[(.builtin "object.__init_subclass__"),(.ref 108)]),#[]⟩
noncomputable def o111:Obj:=⟨(.type "tuple"),none,(.seq #[(.ref 95)] 0),#[]⟩
noncomputable def o112:Obj:=⟨(.type "builtin_function_or_method"),none,(.fields #[(.builtin "type.__prepare__"),(.type "type")]),#[]⟩
noncomputable def o113 (P:Params):Obj:=⟨(.type "dict"),none,(.dict #[de P "__module__" 329 m6_,de P "__qualname__" 331 (vs "MimeFault" 330),de P "__firstlineno__" 333 (.int 63 332),de P "__static_attributes__" 334 (.ref 118)] 4),#[]⟩
noncomputable def o116:Obj:=⟨(.type "code"),none,(.fields #[(vs "MimeFault" 324),(vs "MimeFault" 325),(vs "/claim/cut.py" 326),(.int 63 0),(.int 0 0),(.int 0 0),(.int 0 0),(.int 0 0),(.ref 114),(.bool false),(.int 181 0),(.ref 115),.none,.none,.none,.none,(.int 327 0),(.int 63 0),(vs "/claim/cut.py" 328)]),#[]⟩
noncomputable def o117:Obj:=⟨(.type "frame"),none,.plain,#[(some (.ref 116)),(some (.ref 3)),(some (.ref 113)),none,(some m6_),none,(some (.ref 0))]⟩
noncomputable def o119 (P:Params):Obj:=⟨(.type "dict"),none,(.dict #[de P "__module__" 329 m6_,de P "__firstlineno__" 333 (.int 63 332),de P "__static_attributes__" 334 (.ref 118),de P "__doc__" 335 .none] 2),#[]⟩
noncomputable def o120:Obj:=⟨(.type "type"),none,(.cls {name:="MimeFault",bases:=[(.ref 95)],mro:=[(.ref 120),(.ref 95),(.type "Exception"),(.type "BaseException"),(.type "object")],ns:=119,qualname:="MimeFault",hasDict:=true,slotNames:=[],subclasses:=[],abstract:=false,collection:=none,hasDel:=false}),#[(some (.ref 111)),none,(some (vs "MimeFault" 322)),(some (vs "MimeFault" 330)),(some (.builtin "Exception.__new__")),(some (.bool true))]⟩
noncomputable def o121:Obj:=⟨(.type "super"),none,(.fields #[(.ref 120),(.ref 120),(.ref 120)]),#[]⟩
noncomputable def o122:Obj:=⟨(.type "builtin_function_or_method"),none,(.fields #[(.builtin "object.__init_subclass__"),(.ref 120)]),#[]⟩
noncomputable def L2 (P:Params):List Obj:=List.append (upL [(2,K7 P),(3,NM P),(12,K8)] (L1 P)) ([tE,fE,nT ["k"] 190,tE,aO 0 "_wall",kyB "_wall" 187 1 1 15 17 191,bO 0 "_wall" (vs "__main__" 164) 20]++(fU 5 "worth_table" 202 8 1 22 m8_++(fU 6 "group_codes" 208 10 2 27 m8_++(fU 7 "group_octets" 214 17 1 32 m8_++(fV 8 "part_encoded" ["octets","alphabet","codes","begin"] 220 25 2 37 m8_++(fV 9 "one_line" ["octets"] 230 30 1 44 m8_++(fU 10 "in_lines" 237 32 2 51 m8_++([o56,tE,fE,nT ["octets","width"] 247,tE,aO 11 "encoded",o62,o63]++(fV 12 "decoded" ["data","worths","worth_row","code","found","begin"] 252 38 1 64 m8_++([o71,o72,o73 P,tE,o75,o76,o77,o78,tE,fE,nT ["self","what","at"] 283,tE,fA (mN 14 0) "PostError.__init__",kyR "__init__" "PostError.__init__" 280 54 3 79 81 286,fB (mN 14 0) "PostError.__init__" (.ref 78) m6_ (.ref 84),tE,fE,nT ["self"] 292,tE,fA (mN 14 1) "PostError.told",kyR "told" "PostError.told" 289 59 1 86 88 293,fB (mN 14 1) "PostError.told" .none m6_ (.ref 91),nT ["at","what"] 296,o94 P,o95,o96,o97,o98,o99,o100,o101 P,tE,fE,o104,o105,tE,o107 P,o108,o109,o110,o111,o112,o113 P,tE,fE,o116,o117,tE,o119 P,o120,o121,o122]))))))))))
noncomputable def S2 (w:World) (os:OsState):SharedT:=⟨mkT 12 (L2 w.params),123,{},⟨[]⟩,{},338,os⟩
theorem p2 (w:World) (p:Program) (b:List Stmt) (os:OsState):TW TB p w 11 (some (.ref 6)) 1 1000 (S1 w os) (piecesOf (seg 0 17) cR (.body b cR) ⟨0,0,0,0⟩ [topFrame ⟨0,0,0,0⟩])=some (.next,S2 w os,.body b cR,⟨63,0,64,8⟩):=by kernel_rfl
noncomputable def FE (P:Params):List DictEntry:=List.append (upE [(0,m2_)] (FD P)) [de P "CRLF" 341 (.bytes #[13,10] 340),de P "RETURN_octets" 343 (.int 13 342),de P "MOST_FIGURES" 345 (.int 20 344),dr P "Cursor" 455 204,dr P "lower_code" 462 215,dr P "lower" 468 220,dr P "lower_text" 474 225,dr P "line_spans" 491 233,dr P "WHITE_headers" 496 234,dr P "Field" 540 263]
noncomputable def NN (P:Params):Obj:=⟨.type "dict",none,.dict (FE P).toArray 34,#[]⟩
noncomputable def eo12_3:List Value:=List.append eo12_2 (tR [(69,128),(116,214),(118,219),(120,224),(122,232),(137,240)])
noncomputable def K9:Obj:=⟨.none,none,.fields eo12_3.toArray,#[]⟩
noncomputable def o124:Obj:=⟨(.type "builtin_function_or_method"),none,(.fields #[(.builtin "type.__prepare__"),(.type "type")]),#[]⟩
noncomputable def o125 (P:Params):Obj:=⟨(.type "dict"),none,(.dict #[de P "__module__" 353 m3_,de P "__qualname__" 355 (vs "Cursor" 354),de P "__firstlineno__" 357 (.int 69 356),de P "__init__" 370 (.ref 137),de P "is_done" 377 (.ref 144),de P "peek" 387 (.ref 152),de P "take" 395 (.ref 159),de P "starts" 403 (.ref 166),de P "skip" 411 (.ref 173),de P "take_while" 419 (.ref 180),de P "take_until" 427 (.ref 187),de P "number" 436 (.ref 194),de P "find" 444 (.ref 201),de P "__static_attributes__" 448 (.ref 202)] 14),#[]⟩
noncomputable def o127:Obj:=⟨.none,none,(.fields #[(.int 71 0),(.int 4 0),(.ref 136),(.int 76 0),(.int 4 0),(.ref 143),(.int 79 0),(.int 4 0),(.ref 151),(.int 83 0),(.int 4 0),(.ref 158),(.int 89 0),(.int 4 0),(.ref 165),(.int 92 0),(.int 4 0),(.ref 172),(.int 98 0),(.int 4 0),(.ref 179),(.int 101 0),(.int 4 0),(.ref 186),(.int 104 0),(.int 4 0),(.ref 193),(.int 114 0),(.int 4 0),(.ref 200)]),#[]⟩
noncomputable def o128:Obj:=⟨(.type "code"),none,(.fields #[(vs "Cursor" 348),(vs "Cursor" 349),(vs "/claim/cut.py" 350),(.int 69 0),(.int 0 0),(.int 0 0),(.int 0 0),(.int 0 0),(.ref 126),(.bool false),(.int 181 0),(.ref 127),.none,.none,.none,.none,(.int 351 0),(.int 69 0),(vs "/claim/cut.py" 352)]),#[]⟩
noncomputable def o129:Obj:=⟨(.type "frame"),none,.plain,#[(some (.ref 128)),(some (.ref 3)),(some (.ref 125)),none,(some m3_),none,(some (.ref 0))]⟩
noncomputable def o130:Obj:=⟨(.type "tuple"),none,(.seq #[(.int 0 358),(.int (-1) 360)] 0),#[]⟩
noncomputable def o136:Obj:=kyR "__init__" "Cursor.__init__" 361 71 4 131 133 368
noncomputable def o137:Obj:=fB (mN 21 0) "Cursor.__init__" (.ref 130) m3_ (.ref 136)
noncomputable def o144:Obj:=fB (mN 21 1) "Cursor.is_done" .none m3_ (.ref 143)
noncomputable def o145:Obj:=⟨(.type "tuple"),none,(.seq #[(.int 0 378)] 0),#[]⟩
noncomputable def o151:Obj:=kyR "peek" "Cursor.peek" 379 79 2 146 148 385
noncomputable def o152:Obj:=fB (mN 21 2) "Cursor.peek" (.ref 145) m3_ (.ref 151)
noncomputable def o159:Obj:=fB (mN 21 3) "Cursor.take" .none m3_ (.ref 158)
noncomputable def o166:Obj:=fB (mN 21 4) "Cursor.starts" .none m3_ (.ref 165)
noncomputable def o173:Obj:=fB (mN 21 5) "Cursor.skip" .none m3_ (.ref 172)
noncomputable def o180:Obj:=fB (mN 21 6) "Cursor.take_while" .none m3_ (.ref 179)
noncomputable def o187:Obj:=fB (mN 21 7) "Cursor.take_until" .none m3_ (.ref 186)
noncomputable def o194:Obj:=fB (mN 21 8) "Cursor.number" .none m3_ (.ref 193)
noncomputable def o201:Obj:=fB (mN 21 9) "Cursor.find" .none m3_ (.ref 200)
noncomputable def o202:Obj:=nT ["at","data","end"] 445
noncomputable def o203 (P:Params):Obj:=⟨(.type "dict"),none,(.dict #[de P "__module__" 353 m3_,de P "__firstlineno__" 357 (.int 69 356),de P "__init__" 370 (.ref 137),de P "is_done" 377 (.ref 144),de P "peek" 387 (.ref 152),de P "take" 395 (.ref 159),de P "starts" 403 (.ref 166),de P "skip" 411 (.ref 173),de P "take_while" 419 (.ref 180),de P "take_until" 427 (.ref 187),de P "number" 436 (.ref 194),de P "find" 444 (.ref 201),de P "__static_attributes__" 448 (.ref 202),de P "__dict__" 450 (.ref 205),de P "__weakref__" 452 (.ref 206),de P "__doc__" 453 .none] 4),#[]⟩
noncomputable def o204:Obj:=⟨(.type "type"),none,(.cls {name:="Cursor",bases:=[(.type "object")],mro:=[(.ref 204),(.type "object")],ns:=203,qualname:="Cursor",hasDict:=true,slotNames:=[],subclasses:=[],abstract:=false,collection:=none,hasDel:=false}),#[none,none,(some (vs "Cursor" 346)),(some (vs "Cursor" 354)),(some (.builtin "object.__new__")),(some (.bool true))]⟩
noncomputable def o205:Obj:=⟨(.type "getset_descriptor"),none,(.fields #[(vs "__dict__" 449),(.ref 204),(.builtin "function.__dict__"),(.builtin "function.__dict__#set")]),#[]⟩
noncomputable def o206:Obj:=⟨(.type "getset_descriptor"),none,(.fields #[(vs "__weakref__" 451),(.ref 204),(.builtin "ExceptionGroup.__weakref__"),.none]),#[]⟩
noncomputable def o207:Obj:=⟨(.type "super"),none,(.fields #[(.ref 204),(.ref 204),(.ref 204)]),#[]⟩
noncomputable def o208:Obj:=⟨(.type "builtin_function_or_method"),none,(.fields #[(.builtin "object.__init_subclass__"),(.ref 204)]),#[]⟩
noncomputable def o226:Obj:=⟨(.type "tuple"),none,(.seq #[(.int 0 475),(.int (-1) 477)] 0),#[]⟩
noncomputable def o232:Obj:=kyB "line_spans" 478 122 3 227 229 489
noncomputable def o233:Obj:=fB (sN 25) "line_spans" (.ref 226) m3_ (.ref 232)
noncomputable def o234:Obj:=⟨(.type "tuple"),none,(.seq #[(.int 32 494),(.int 9 495)] 0),#[]⟩
noncomputable def o236:Obj:=⟨(.type "builtin_function_or_method"),none,(.fields #[(.builtin "type.__prepare__"),(.type "type")]),#[]⟩
noncomputable def o237 (P:Params):Obj:=⟨(.type "dict"),none,(.dict #[de P "__module__" 504 m2_,de P "__qualname__" 506 (vs "Field" 505),de P "__firstlineno__" 508 (.int 137 507),de P "__init__" 517 (.ref 248),de P "word" 523 (.ref 253),de P "told" 530 (.ref 260),de P "__static_attributes__" 533 (.ref 261)] 7),#[]⟩
noncomputable def o239:Obj:=⟨.none,none,(.fields #[(.int 139 0),(.int 4 0),(.ref 247),(.int 143 0),(.int 4 0),(.ref 252),(.int 146 0),(.int 4 0),(.ref 259)]),#[]⟩
noncomputable def o240:Obj:=⟨(.type "code"),none,(.fields #[(vs "Field" 499),(vs "Field" 500),(vs "/claim/cut.py" 501),(.int 137 0),(.int 0 0),(.int 0 0),(.int 0 0),(.int 0 0),(.ref 238),(.bool false),(.int 181 0),(.ref 239),.none,.none,.none,.none,(.int 502 0),(.int 137 0),(vs "/claim/cut.py" 503)]),#[]⟩
noncomputable def o241:Obj:=⟨(.type "frame"),none,.plain,#[(some (.ref 240)),(some (.ref 3)),(some (.ref 237)),none,(some m2_),none,(some (.ref 0))]⟩
noncomputable def o248:Obj:=fB (mN 28 0) "Field.__init__" .none m2_ (.ref 247)
noncomputable def o253:Obj:=fB (mN 28 1) "Field.word" .none m2_ (.ref 252)
noncomputable def o260:Obj:=fB (mN 28 2) "Field.told" .none m2_ (.ref 259)
noncomputable def o261:Obj:=nT ["name","raw"] 531
noncomputable def o262 (P:Params):Obj:=⟨(.type "dict"),none,(.dict #[de P "__module__" 504 m2_,de P "__firstlineno__" 508 (.int 137 507),de P "__init__" 517 (.ref 248),de P "word" 523 (.ref 253),de P "told" 530 (.ref 260),de P "__static_attributes__" 533 (.ref 261),de P "__dict__" 535 (.ref 264),de P "__weakref__" 537 (.ref 265),de P "__doc__" 538 .none] 4),#[]⟩
noncomputable def o263:Obj:=⟨(.type "type"),none,(.cls {name:="Field",bases:=[(.type "object")],mro:=[(.ref 263),(.type "object")],ns:=262,qualname:="Field",hasDict:=true,slotNames:=[],subclasses:=[],abstract:=false,collection:=none,hasDel:=false}),#[none,none,(some (vs "Field" 497)),(some (vs "Field" 505)),(some (.builtin "object.__new__")),(some (.bool true))]⟩
noncomputable def o264:Obj:=⟨(.type "getset_descriptor"),none,(.fields #[(vs "__dict__" 534),(.ref 263),(.builtin "function.__dict__"),(.builtin "function.__dict__#set")]),#[]⟩
noncomputable def o265:Obj:=⟨(.type "getset_descriptor"),none,(.fields #[(vs "__weakref__" 536),(.ref 263),(.builtin "ExceptionGroup.__weakref__"),.none]),#[]⟩
noncomputable def o266:Obj:=⟨(.type "super"),none,(.fields #[(.ref 263),(.ref 263),(.ref 263)]),#[]⟩
noncomputable def o267:Obj:=⟨(.type "builtin_function_or_method"),none,(.fields #[(.builtin "object.__init_subclass__"),(.ref 263)]),#[]⟩
noncomputable def L3 (P:Params):List Obj:=List.append (upL [(3,NN P),(12,K9)] (L2 P)) ([tE,o124,o125 P,tE,o127,o128,o129,o130,tE,fE,nT ["self","data","at","end"] 364,tE,fA (mN 21 0) "Cursor.__init__",o136,o137,tE,fE,nT ["self"] 374,tE,fA (mN 21 1) "Cursor.is_done",kyR "is_done" "Cursor.is_done" 371 76 1 138 140 375,o144,o145,tE,fE,nT ["self","ahead","place"] 382,tE,fA (mN 21 2) "Cursor.peek",o151,o152,tE,fE,nT ["self","code"] 391,tE,fA (mN 21 3) "Cursor.take",kyR "take" "Cursor.take" 388 83 1 153 155 393,o159,tE,fE,nT ["self","word"] 399,tE,fA (mN 21 4) "Cursor.starts",kyR "starts" "Cursor.starts" 396 89 2 160 162 401,o166,tE,fE,nT ["self","word"] 407,tE,fA (mN 21 5) "Cursor.skip",kyR "skip" "Cursor.skip" 404 92 2 167 169 409,o173,tE,fE,nT ["self","codes"] 415,tE,fA (mN 21 6) "Cursor.take_while",kyR "take_while" "Cursor.take_while" 412 98 2 174 176 417,o180,tE,fE,nT ["self","codes"] 423,tE,fA (mN 21 7) "Cursor.take_until",kyR "take_until" "Cursor.take_until" 420 101 2 181 183 425,o187,tE,fE,nT ["self","first","number"] 431,tE,fA (mN 21 8) "Cursor.number",kyR "number" "Cursor.number" 428 104 1 188 190 434,o194,tE,fE,nT ["self","word"] 440,tE,fA (mN 21 9) "Cursor.find",kyR "find" "Cursor.find" 437 114 2 195 197 442,o201,o202,o203 P,o204,o205,o206,o207,o208]++(fV 22 "lower_code" ["code"] 456 116 1 209 m3_++(fU 23 "lower" 463 118 1 216 m3_++(fU 24 "lower_text" 469 120 1 221 m3_++([o226,tE,fE,nT ["data","at","end","behind","found","begin","feed","last"] 481,tE,aO 25 "line_spans",o232,o233,o234,tE,o236,o237 P,tE,o239,o240,o241,tE,fE,nT ["self","name","raw"] 512,tE,fA (mN 28 0) "Field.__init__",kyR "__init__" "Field.__init__" 509 139 3 242 244 515,o248,tE,fE,fA (mN 28 1) "Field.word",kyQ "word" "Field.word" 518 143 1 249 .none .none (.ref 251) 521,o253,tE,fE,nT ["self"] 527,tE,fA (mN 28 2) "Field.told",kyR "told" "Field.told" 524 146 1 254 256 528,o260,o261,o262 P,o263,o264,o265,o266,o267])))))
noncomputable def S3 (w:World) (os:OsState):SharedT:=⟨mkT 12 (L3 w.params),268,{},⟨[]⟩,{},541,os⟩
theorem p3 (w:World) (p:Program) (b:List Stmt) (os:OsState):TW TB p w 11 (some (.ref 6)) 1 991 (S2 w os) (piecesOf (seg 17 12) cR (.body b cR) ⟨63,0,64,8⟩ [topFrame ⟨0,0,0,0⟩])=some (.next,S3 w os,.body b cR,⟨137,0,147,36⟩):=by kernel_rfl
noncomputable def FF (P:Params):List DictEntry:=List.append (upE [(0,v8)] (FE P)) [dr P "line_at" 550 274,dr P "is_name" 558 281,dr P "colon_in" 568 288,dr P "read_spans" 586 296,dr P "read_fields" 595 302,dr P "rows_of" 606 309,dr P "unfolded" 613 316,dr P "first_body" 623 323,dr P "without_words" 629 328,dr P "is_sound" 637 335,dr P "write_fields" 643 340,de P "ASCII" 647 (vs "us-ascii" 646),de P "LATIN" 649 (vs "iso-8859-1" 648),de P "UTF8" 651 (vs "utf-8" 650),dr P "CHARSETS" 652 341,de P "UNKNOWN_SIGN" 655 (vs "�" 654),dr P "charset_names" 663 348,dr P "charset_name" 670 355,dr P "need_charset" 677 362,dr P "utf8_length" 683 367,dr P "utf8_octets" 694 374,dr P "follower_span" 701 381,dr P "utf8_sign" 715 388,dr P "sign_at" 724 395,dr P "text_in" 736 402,dr P "strict_text" 748 409,dr P "guessed_text" 755 416,dr P "has_sign" 763 423,dr P "octets_in" 774 430,de P "MOST_DEPTH_tokens" 778 (.int 20 777),dr P "NEVER_ESCAPED" 782 431,dr P "line_end" 790 438,dr P "inside_at" 800 445,dr P "closed_at" 813 452,dr P "comment_at" 826 459]
noncomputable def NO (P:Params):Obj:=⟨.type "dict",none,.dict (FF P).toArray 69,#[]⟩
noncomputable def eo12_4:List Value:=List.append eo12_3 (tR [(148,273),(155,280),(160,287),(163,295),(179,301),(182,308),(191,315),(193,322),(199,327),(202,334),(209,339),(220,347),(229,354),(231,361),(234,366),(238,373),(248,380),(256,387),(270,394),(276,401),(285,408),(296,415),(301,422),(305,429),(320,437),(324,444),(337,451),(346,458)])
noncomputable def LA:Obj:=⟨.none,none,.fields eo12_4.toArray,#[]⟩
noncomputable def o289:Obj:=⟨(.type "tuple"),none,(.seq #[(.int 0 569),(.int (-1) 571)] 0),#[]⟩
noncomputable def o295:Obj:=kyB "read_spans" 572 163 3 290 292 584
noncomputable def o296:Obj:=fB (sN 32) "read_spans" (.ref 289) m2_ (.ref 295)
noncomputable def o297:Obj:=⟨(.type "tuple"),none,(.seq #[(.int 0 587),(.int (-1) 589)] 0),#[]⟩
noncomputable def o301:Obj:=kyA "read_fields" 590 179 3 298 300 593
noncomputable def o302:Obj:=fB (sN 33) "read_fields" (.ref 297) m2_ (.ref 301)
noncomputable def o341:Obj:=⟨(.type "tuple"),none,(.seq #[(vs "us-ascii" 646),(vs "iso-8859-1" 648),(vs "utf-8" 650)] 0),#[]⟩
noncomputable def o431:Obj:=⟨(.type "tuple"),none,(.seq #[(.int 0 779),(.int 10 780),(.int 13 781)] 0),#[]⟩
noncomputable def L4 (P:Params):List Obj:=List.append (upL [(3,NO P),(12,LA)] (L3 P)) (fV 29 "line_at" ["data","at","end","spot"] 541 148 3 268 m2_++(fV 30 "is_name" ["octets","code"] 551 155 1 275 m2_++(fV 31 "colon_in" ["data","at","end","spot"] 559 160 3 282 m2_++([o289,tE,fE,nT ["data","at","end","stop","rows","here","last","later","colon"] 575,tE,aO 32 "read_spans",o295,o296,o297,tE,fE,aO 33 "read_fields",o301,o302]++(fV 34 "rows_of" ["raw","rows","at","last","later"] 596 182 1 303 m2_++(fV 35 "unfolded" ["raw"] 607 191 1 310 m2_++(fV 36 "first_body" ["fields","word","wanted","field"] 614 193 2 317 m2_++(fU 37 "without_words" 624 199 2 324 m2_++(fV 38 "is_sound" ["field","row"] 630 202 1 329 m2_++(fU 39 "write_fields" 638 209 1 336 m2_++([o341]++(fV 46 "charset_names" ["found","alias"] 656 220 0 342 m5_++(fV 47 "charset_name" ["text"] 664 229 1 349 m5_++(fV 48 "need_charset" ["charset"] 671 231 1 356 m5_++(fU 49 "utf8_length" 678 234 1 363 m5_++(fV 50 "utf8_octets" ["code","length","found","left","place"] 684 238 1 368 m5_++(fV 51 "follower_span" ["lead"] 695 248 1 375 m5_++(fV 52 "utf8_sign" ["octets","at","lead","least","most","count","code","place"] 702 256 2 382 m5_++(fV 53 "sign_at" ["charset","octets","at"] 716 270 3 389 m5_++(fV 54 "text_in" ["charset","octets","signs","at","code","length"] 725 276 2 396 m5_++(fV 55 "strict_text" ["charset","octets","signs","at","code","length"] 737 285 2 403 m5_++(fV 56 "guessed_text" ["octets"] 749 296 1 410 m5_++(fV 57 "has_sign" ["charset","code"] 756 301 2 417 m5_++(fV 58 "octets_in" ["charset","text","row","at","code"] 764 305 2 424 m5_++([o431]++(fV 62 "line_end" ["data","at"] 783 320 2 432 v8++(fV 63 "inside_at" ["data","at","begun","behind"] 791 324 3 439 v8++(fV 64 "closed_at" ["data","begun","closing","barred","parts","at","octets"] 801 337 4 446 v8++(fV 65 "comment_at" ["data","begun","parts","depth","at","sign","octets"] 814 346 2 453 v8)))))))))))))))))))))))))))))
noncomputable def S4 (w:World) (os:OsState):SharedT:=⟨mkT 12 (L4 w.params),460,{},⟨[]⟩,{},827,os⟩
theorem p4 (w:World) (p:Program) (b:List Stmt) (os:OsState):TW TB p w 11 (some (.ref 6)) 1 986 (S3 w os) (piecesOf (seg 29 37) cR (.body b cR) ⟨137,0,147,36⟩ [topFrame ⟨0,0,0,0⟩])=some (.next,S4 w os,.body b cR,⟨346,0,360,37⟩):=by kernel_rfl
noncomputable def FH (P:Params):List DictEntry:=List.append (upE [(0,m1_)] (FF P)) [dr P "escaped_octets" 836 466,dr P "WHITE_params" 843 467,de P "SEMICOLON" 845 (.int 59 844),de P "EQUALS_params" 847 (.int 61 846),de P "QUOTE" 849 (.int 34 848),de P "BRACKET" 851 (.int 40 850),de P "PER_CENT" 853 (.int 37 852),de P "BARRED" 855 (.bytes #[40,41,60,62,64,44,59,58,92,34,47,91,93,63,61] 854),de P "BARRED_IN_NAMES" 857 (.bytes #[42,39,37] 856),de P "HEX_FIGURES" 859 (.bytes #[48,49,50,51,52,53,54,55,56,57,65,66,67,68,69,70] 858),de P "WIDTH" 861 (.int 78 860),de P "MOST_NAME" 863 (.int 40 862),de P "MOST_PARTS" 865 (.int 1000 864),de P "ROOM" 867 (.int 66 866),dr P "Kind" 927 510,dr P "plain_kind" 933 521,dr P "is_token_code" 940 528,dr P "skip_between" 947 535,dr P "take_token" 955 542,dr P "is_worth_code" 962 549,dr P "take_worth" 971 556,dr P "small_word" 977 561,dr P "take_pairs" 986 568,dr P "part_number" 995 575,dr P "part_of" 1005 582,dr P "hex_worth" 1011 587,dr P "hex_worth_params" 1012 587,dr P "percent_decoded" 1022 594,dr P "charset_cut" 1028 599,dr P "joined_worth" 1040 606,dr P "params_of" 1055 613]
noncomputable def NP (P:Params):Obj:=⟨.type "dict",none,.dict (FH P).toArray 100,#[]⟩
noncomputable def eo12_5:List Value:=List.append eo12_4 (tR [(361,465),(384,473),(402,520),(404,527),(406,534),(414,541),(421,548),(423,555),(433,560),(435,567),(451,574),(460,581),(469,586),(475,593),(483,598),(488,605),(499,612)])
noncomputable def LB:Obj:=⟨.none,none,.fields eo12_5.toArray,#[]⟩
noncomputable def o467:Obj:=⟨(.type "tuple"),none,(.seq #[(.int 9 839),(.int 10 840),(.int 13 841),(.int 32 842)] 0),#[]⟩
noncomputable def o469:Obj:=⟨(.type "builtin_function_or_method"),none,(.fields #[(.builtin "type.__prepare__"),(.type "type")]),#[]⟩
noncomputable def o470 (P:Params):Obj:=⟨(.type "dict"),none,(.dict #[de P "__module__" 875 m1_,de P "__qualname__" 877 (vs "Kind" 876),de P "__firstlineno__" 879 (.int 384 878),de P "__init__" 889 (.ref 481),de P "told" 895 (.ref 486),de P "is_multi" 902 (.ref 493),de P "is_letter" 909 (.ref 500),de P "is_text" 916 (.ref 507),de P "__static_attributes__" 920 (.ref 508)] 9),#[]⟩
noncomputable def o472:Obj:=⟨.none,none,(.fields #[(.int 386 0),(.int 4 0),(.ref 480),(.int 391 0),(.int 4 0),(.ref 485),(.int 394 0),(.int 4 0),(.ref 492),(.int 397 0),(.int 4 0),(.ref 499),(.int 400 0),(.int 4 0),(.ref 506)]),#[]⟩
noncomputable def o473:Obj:=⟨(.type "code"),none,(.fields #[(vs "Kind" 870),(vs "Kind" 871),(vs "/claim/cut.py" 872),(.int 384 0),(.int 0 0),(.int 0 0),(.int 0 0),(.int 0 0),(.ref 471),(.bool false),(.int 181 0),(.ref 472),.none,.none,.none,.none,(.int 873 0),(.int 384 0),(vs "/claim/cut.py" 874)]),#[]⟩
noncomputable def o474:Obj:=⟨(.type "frame"),none,.plain,#[(some (.ref 473)),(some (.ref 3)),(some (.ref 470)),none,(some m1_),none,(some (.ref 0))]⟩
noncomputable def o481:Obj:=fB (mN 81 0) "Kind.__init__" .none m1_ (.ref 480)
noncomputable def o486:Obj:=fB (mN 81 1) "Kind.told" .none m1_ (.ref 485)
noncomputable def o493:Obj:=fB (mN 81 2) "Kind.is_multi" .none m1_ (.ref 492)
noncomputable def o500:Obj:=fB (mN 81 3) "Kind.is_letter" .none m1_ (.ref 499)
noncomputable def o507:Obj:=fB (mN 81 4) "Kind.is_text" .none m1_ (.ref 506)
noncomputable def o508:Obj:=nT ["params","sub","top"] 917
noncomputable def o509 (P:Params):Obj:=⟨(.type "dict"),none,(.dict #[de P "__module__" 875 m1_,de P "__firstlineno__" 879 (.int 384 878),de P "__init__" 889 (.ref 481),de P "told" 895 (.ref 486),de P "is_multi" 902 (.ref 493),de P "is_letter" 909 (.ref 500),de P "is_text" 916 (.ref 507),de P "__static_attributes__" 920 (.ref 508),de P "__dict__" 922 (.ref 511),de P "__weakref__" 924 (.ref 512),de P "__doc__" 925 .none] 4),#[]⟩
noncomputable def o510:Obj:=⟨(.type "type"),none,(.cls {name:="Kind",bases:=[(.type "object")],mro:=[(.ref 510),(.type "object")],ns:=509,qualname:="Kind",hasDict:=true,slotNames:=[],subclasses:=[],abstract:=false,collection:=none,hasDel:=false}),#[none,none,(some (vs "Kind" 868)),(some (vs "Kind" 876)),(some (.builtin "object.__new__")),(some (.bool true))]⟩
noncomputable def o511:Obj:=⟨(.type "getset_descriptor"),none,(.fields #[(vs "__dict__" 921),(.ref 510),(.builtin "function.__dict__"),(.builtin "function.__dict__#set")]),#[]⟩
noncomputable def o512:Obj:=⟨(.type "getset_descriptor"),none,(.fields #[(vs "__weakref__" 923),(.ref 510),(.builtin "ExceptionGroup.__weakref__"),.none]),#[]⟩
noncomputable def o513:Obj:=⟨(.type "super"),none,(.fields #[(.ref 510),(.ref 510),(.ref 510)]),#[]⟩
noncomputable def o514:Obj:=⟨(.type "builtin_function_or_method"),none,(.fields #[(.builtin "object.__init_subclass__"),(.ref 510)]),#[]⟩
noncomputable def L5 (P:Params):List Obj:=List.append (upL [(3,NP P),(12,LB)] (L4 P)) (fV 66 "escaped_octets" ["octets","signs","parts","at"] 827 361 2 460 v8++([o467,tE,o469,o470 P,tE,o472,o473,o474,tE,fE,nT ["self","top","sub","params"] 883,tE,fA (mN 81 0) "Kind.__init__",kyR "__init__" "Kind.__init__" 880 386 4 475 477 887,o481,tE,fE,fA (mN 81 1) "Kind.told",kyQ "told" "Kind.told" 890 391 1 482 .none .none (.ref 484) 893,o486,tE,fE,nT ["self"] 899,tE,fA (mN 81 2) "Kind.is_multi",kyR "is_multi" "Kind.is_multi" 896 394 1 487 489 900,o493,tE,fE,nT ["self"] 906,tE,fA (mN 81 3) "Kind.is_letter",kyR "is_letter" "Kind.is_letter" 903 397 1 494 496 907,o500,tE,fE,nT ["self"] 913,tE,fA (mN 81 4) "Kind.is_text",kyR "is_text" "Kind.is_text" 910 400 1 501 503 914,o507,o508,o509 P,o510,o511,o512,o513,o514,tE,fE,tE,tE,aO 82 "plain_kind",kyB "plain_kind" 928 402 0 515 517 931,bO 82 "plain_kind" m1_ 520]++(fV 83 "is_token_code" ["code"] 934 404 1 522 m1_++(fV 84 "skip_between" ["cursor"] 941 406 1 529 m1_++(fV 85 "take_token" ["cursor","first"] 948 414 1 536 m1_++(fV 86 "is_worth_code" ["code"] 956 421 1 543 m1_++(fV 87 "take_worth" ["cursor","worth","first"] 963 423 1 550 m1_++(fU 88 "small_word" 972 433 1 557 m1_++(fV 89 "take_pairs" ["cursor","pairs","name"] 978 435 1 562 m1_++(fV 90 "part_number" ["figures","number","sign"] 987 451 1 569 m1_++(fV 91 "part_of" ["name","spot","is_encoded","number"] 996 460 1 576 m1_++(fU 92 "hex_worth" 1006 469 1 583 m1_++(fV 94 "percent_decoded" ["octets","found","at","worth"] 1013 475 1 588 m1_++(fU 95 "charset_cut" 1023 483 1 595 m1_++(fV 96 "joined_worth" ["parts","charset","octets","number","is_encoded","worth"] 1029 488 1 600 m1_++(fV 97 "params_of" ["pairs","plain","parted","name","worth","part","base","number","is_encoded"] 1041 499 1 607 m1_))))))))))))))))
noncomputable def S5 (w:World) (os:OsState):SharedT:=⟨mkT 12 (L5 w.params),614,{},⟨[]⟩,{},1056,os⟩
theorem p5 (w:World) (p:Program) (b:List Stmt) (os:OsState):TW TB p w 11 (some (.ref 6)) 1 972 (S4 w os) (piecesOf (seg 66 32) cR (.body b cR) ⟨346,0,360,37⟩ [topFrame ⟨0,0,0,0⟩])=some (.next,S5 w os,.body b cR,⟨499,0,516,16⟩):=by kernel_rfl
noncomputable def FI (P:Params):List DictEntry:=List.append (upE [(0,m4_),(94,(.ref 695))] (FH P)) [dr P "strict_kind" 1065 620,dr P "read_kind" 1072 627,dr P "is_token" 1078 632,dr P "is_plain" 1084 709,dr P "is_plain_params" 1085 637,dr P "percent_encoded" 1094 644,dr P "in_rows" 1104 651,dr P "encoded_rows" 1110 656,dr P "quoted_rows" 1116 661,dr P "number_octets" 1122 666,dr P "param_rows" 1128 671,dr P "write_params" 1134 676,dr P "write_kind" 1140 681,de P "EQUALS_quoted" 1144 (.int 61 1143),de P "BLANK" 1146 (.int 32 1145),de P "TAB" 1148 (.int 9 1147),de P "RETURN_quoted" 1150 (.int 13 1149),de P "LEAST_WIDTH" 1152 (.int 4 1151),de P "HEX" 1154 (.bytes #[48,49,50,51,52,53,54,55,56,57,65,66,67,68,69,70] 1153),dr P "quoted_code" 1161 688,dr P "hex_worth_quoted" 1169 695,dr P "quoted_at" 1179 702,dr P "is_plain_quoted" 1187 709,dr P "line_pieces" 1197 716,dr P "soft_lines" 1209 723,dr P "text_lines" 1217 730,dr P "quoted_encoded" 1229 738,dr P "joined_lines" 1238 745,dr P "line_parts" 1248 752,dr P "unquoted" 1258 759,dr P "quoted_decoded" 1269 766,de P "MOST_DEPTH_parts" 1273 (.int 20 1272),de P "PLAIN_ENCODING" 1275 (vs "7bit" 1274),dr P "OPEN_ENCODINGS" 1279 767,de P "WORD_ENDS" 1281 (.bytes #[32,9,40,59] 1280),de P "BLANKS" 1283 (.bytes #[32,9] 1282)]
noncomputable def NQ (P:Params):Obj:=⟨.type "dict",none,.dict (FI P).toArray 136,#[]⟩
noncomputable def eo12_6:List Value:=List.append eo12_5 (tR [(517,619),(527,626),(534,631),(536,636),(539,643),(547,650),(554,655),(562,660),(569,665),(571,670),(585,675),(590,680),(605,687),(607,694),(616,701),(622,708),(625,715),(634,722),(644,729),(646,737),(654,744),(661,751),(673,758),(685,765)])
noncomputable def LC:Obj:=⟨.none,none,.fields eo12_6.toArray,#[]⟩
noncomputable def o731:Obj:=⟨(.type "tuple"),none,(.seq #[(.bool true),(.int 76 1218)] 0),#[]⟩
noncomputable def o737:Obj:=kyB "quoted_encoded" 1219 646 3 732 734 1227
noncomputable def o738:Obj:=fB (sN 127) "quoted_encoded" (.ref 731) m7_ (.ref 737)
noncomputable def o767:Obj:=nT ["7bit","8bit","binary"] 1276
noncomputable def L6 (P:Params):List Obj:=List.append (upL [(3,NQ P),(12,LC)] (L5 P)) (fV 98 "strict_kind" ["octets","cursor","top","sub"] 1056 517 1 614 m1_++(fV 99 "read_kind" ["octets"] 1066 527 1 621 m1_++(fU 100 "is_token" 1073 534 1 628 m1_++(fU 101 "is_plain" 1079 536 1 633 m1_++(fV 103 "percent_encoded" ["octets","found","code"] 1086 539 1 638 m1_++(fV 104 "in_rows" ["pieces","room","rows","piece"] 1095 547 2 645 m1_++(fU 105 "encoded_rows" 1105 554 2 652 m1_++(fU 106 "quoted_rows" 1111 562 2 657 m1_++(fU 107 "number_octets" 1117 569 1 662 m1_++(fU 108 "param_rows" 1123 571 2 667 m1_++(fU 109 "write_params" 1129 585 2 672 m1_++(fU 110 "write_kind" 1135 590 1 677 m1_++(fV 118 "quoted_code" ["code"] 1155 605 1 682 m7_++(fV 119 "hex_worth" ["code"] 1162 607 1 689 m7_++(fV 121 "quoted_at" ["data","at","high","low"] 1170 616 2 696 m7_++(fV 122 "is_plain" ["code"] 1180 622 1 703 m7_++(fV 124 "line_pieces" ["line","pieces","at","is_white"] 1188 625 1 710 m7_++(fV 125 "soft_lines" ["pieces","width","lines","line","at","room"] 1198 634 2 717 m7_++(fV 126 "text_lines" ["octets","is_text"] 1210 644 2 724 m7_++([o731,tE,fE,nT ["octets","is_text","width","lines","line"] 1222,tE,aO 127 "quoted_encoded",o737,o738]++(fV 128 "joined_lines" ["lines","parts","line"] 1230 654 1 739 m7_++(fV 129 "line_parts" ["data","found","begin","at"] 1239 661 1 746 m7_++(fV 130 "unquoted" ["line","codes","at","code"] 1249 673 1 753 m7_++(fV 131 "quoted_decoded" ["data","parts","line","end","kept"] 1259 685 1 760 m7_++([o767])))))))))))))))))))))))))
noncomputable def S6 (w:World) (os:OsState):SharedT:=⟨mkT 12 (L6 w.params),768,{},⟨[]⟩,{},1284,os⟩
theorem p6 (w:World) (p:Program) (b:List Stmt) (os:OsState):TW TB p w 11 (some (.ref 6)) 1 862 (S5 w os) (piecesOf (seg 98 40) cR (.body b cR) ⟨499,0,516,16⟩ [topFrame ⟨0,0,0,0⟩])=some (.next,S6 w os,.body b cR,⟨699,0,699,6⟩):=by kernel_rfl
noncomputable def FJ (P:Params):List DictEntry:=List.append (upE [(0,m0_)] (FI P)) [dr P "Part" 1329 789,dr P "encoding_of" 1335 798,dr P "boundary_way" 1345 805,dr P "part_spans" 1362 812,dr P "kid_spans" 1368 817,dr P "has_inner" 1375 824,dr P "read_part" 1381 829,dr P "read_message" 1388 836,dr P "undone" 1396 843,dr P "body_octets" 1404 850,de P "MOST_LINE" 1408 (.int 998 1407),dr P "OWN_WORDS" 1412 851,de P "BOUNDARY_LEAD" 1414 (vs "=_part" 1413),dr P "fields_told" 1420 856,dr P "bare_piece" 1427 863,dr P "Leaf" 1474 896]
noncomputable def NR (P:Params):Obj:=⟨.type "dict",none,.dict (FJ P).toArray 152,#[]⟩
noncomputable def eo12_7:List Value:=List.append eo12_6 (tR [(700,773),(716,797),(725,804),(733,811),(749,816),(756,823),(758,828),(769,835),(771,842),(777,849),(783,855),(785,862),(787,869)])
noncomputable def LD:Obj:=⟨.none,none,.fields eo12_7.toArray,#[]⟩
noncomputable def o769:Obj:=⟨(.type "builtin_function_or_method"),none,(.fields #[(.builtin "type.__prepare__"),(.type "type")]),#[]⟩
noncomputable def o770 (P:Params):Obj:=⟨(.type "dict"),none,(.dict #[de P "__module__" 1291 m4_,de P "__qualname__" 1293 (vs "Part" 1292),de P "__firstlineno__" 1295 (.int 700 1294),de P "__init__" 1307 (.ref 781),de P "told" 1313 (.ref 786),de P "__static_attributes__" 1322 (.ref 787)] 6),#[]⟩
noncomputable def o772:Obj:=⟨.none,none,(.fields #[(.int 702 0),(.int 4 0),(.ref 780),(.int 712 0),(.int 4 0),(.ref 785)]),#[]⟩
noncomputable def o773:Obj:=⟨(.type "code"),none,(.fields #[(vs "Part" 1286),(vs "Part" 1287),(vs "/claim/cut.py" 1288),(.int 700 0),(.int 0 0),(.int 0 0),(.int 0 0),(.int 0 0),(.ref 771),(.bool false),(.int 181 0),(.ref 772),.none,.none,.none,.none,(.int 1289 0),(.int 700 0),(vs "/claim/cut.py" 1290)]),#[]⟩
noncomputable def o774:Obj:=⟨(.type "frame"),none,.plain,#[(some (.ref 773)),(some (.ref 3)),(some (.ref 770)),none,(some m4_),none,(some (.ref 0))]⟩
noncomputable def o781:Obj:=fB (mN 138 0) "Part.__init__" .none m4_ (.ref 780)
noncomputable def o786:Obj:=fB (mN 138 1) "Part.told" .none m4_ (.ref 785)
noncomputable def o787:Obj:=nT ["begin","body","encoding","end","fields","inner","kids","kind"] 1314
noncomputable def o788 (P:Params):Obj:=⟨(.type "dict"),none,(.dict #[de P "__module__" 1291 m4_,de P "__firstlineno__" 1295 (.int 700 1294),de P "__init__" 1307 (.ref 781),de P "told" 1313 (.ref 786),de P "__static_attributes__" 1322 (.ref 787),de P "__dict__" 1324 (.ref 790),de P "__weakref__" 1326 (.ref 791),de P "__doc__" 1327 .none] 4),#[]⟩
noncomputable def o789:Obj:=⟨(.type "type"),none,(.cls {name:="Part",bases:=[(.type "object")],mro:=[(.ref 789),(.type "object")],ns:=788,qualname:="Part",hasDict:=true,slotNames:=[],subclasses:=[],abstract:=false,collection:=none,hasDel:=false}),#[none,none,(some (vs "Part" 1284)),(some (vs "Part" 1292)),(some (.builtin "object.__new__")),(some (.bool true))]⟩
noncomputable def o790:Obj:=⟨(.type "getset_descriptor"),none,(.fields #[(vs "__dict__" 1323),(.ref 789),(.builtin "function.__dict__"),(.builtin "function.__dict__#set")]),#[]⟩
noncomputable def o791:Obj:=⟨(.type "getset_descriptor"),none,(.fields #[(vs "__weakref__" 1325),(.ref 789),(.builtin "ExceptionGroup.__weakref__"),.none]),#[]⟩
noncomputable def o792:Obj:=⟨(.type "super"),none,(.fields #[(.ref 789),(.ref 789),(.ref 789)]),#[]⟩
noncomputable def o793:Obj:=⟨(.type "builtin_function_or_method"),none,(.fields #[(.builtin "object.__init_subclass__"),(.ref 789)]),#[]⟩
noncomputable def o851:Obj:=nT ["content-type","content-transfer-encoding","mime-version"] 1409
noncomputable def o865:Obj:=⟨(.type "builtin_function_or_method"),none,(.fields #[(.builtin "type.__prepare__"),(.type "type")]),#[]⟩
noncomputable def o866 (P:Params):Obj:=⟨(.type "dict"),none,(.dict #[de P "__module__" 1435 m0_,de P "__qualname__" 1437 (vs "Leaf" 1436),de P "__firstlineno__" 1439 (.int 787 1438),de P "__init__" 1449 (.ref 879),de P "told" 1456 (.ref 886),de P "depth" 1463 (.ref 893),de P "__static_attributes__" 1467 (.ref 894)] 7),#[]⟩
noncomputable def o868:Obj:=⟨.none,none,(.fields #[(.int 789 0),(.int 4 0),(.ref 878),(.int 794 0),(.int 4 0),(.ref 885),(.int 797 0),(.int 4 0),(.ref 892)]),#[]⟩
noncomputable def o869:Obj:=⟨(.type "code"),none,(.fields #[(vs "Leaf" 1430),(vs "Leaf" 1431),(vs "/claim/cut.py" 1432),(.int 787 0),(.int 0 0),(.int 0 0),(.int 0 0),(.int 0 0),(.ref 867),(.bool false),(.int 181 0),(.ref 868),.none,.none,.none,.none,(.int 1433 0),(.int 787 0),(vs "/claim/cut.py" 1434)]),#[]⟩
noncomputable def o870:Obj:=⟨(.type "frame"),none,.plain,#[(some (.ref 869)),(some (.ref 3)),(some (.ref 866)),none,(some m0_),none,(some (.ref 0))]⟩
noncomputable def o871:Obj:=tE
noncomputable def o872:Obj:=⟨(.type "tuple"),none,(.seq #[(.ref 871)] 0),#[]⟩
noncomputable def o878:Obj:=kyR "__init__" "Leaf.__init__" 1440 789 4 873 875 1447
noncomputable def o879:Obj:=fB (mN 154 0) "Leaf.__init__" (.ref 872) m0_ (.ref 878)
noncomputable def o886:Obj:=fB (mN 154 1) "Leaf.told" .none m0_ (.ref 885)
noncomputable def o893:Obj:=fB (mN 154 2) "Leaf.depth" .none m0_ (.ref 892)
noncomputable def o894:Obj:=nT ["fields","kind","octets"] 1464
noncomputable def o895 (P:Params):Obj:=⟨(.type "dict"),none,(.dict #[de P "__module__" 1435 m0_,de P "__firstlineno__" 1439 (.int 787 1438),de P "__init__" 1449 (.ref 879),de P "told" 1456 (.ref 886),de P "depth" 1463 (.ref 893),de P "__static_attributes__" 1467 (.ref 894),de P "__dict__" 1469 (.ref 897),de P "__weakref__" 1471 (.ref 898),de P "__doc__" 1472 .none] 4),#[]⟩
noncomputable def o896:Obj:=⟨(.type "type"),none,(.cls {name:="Leaf",bases:=[(.type "object")],mro:=[(.ref 896),(.type "object")],ns:=895,qualname:="Leaf",hasDict:=true,slotNames:=[],subclasses:=[],abstract:=false,collection:=none,hasDel:=false}),#[none,none,(some (vs "Leaf" 1428)),(some (vs "Leaf" 1436)),(some (.builtin "object.__new__")),(some (.bool true))]⟩
noncomputable def o897:Obj:=⟨(.type "getset_descriptor"),none,(.fields #[(vs "__dict__" 1468),(.ref 896),(.builtin "function.__dict__"),(.builtin "function.__dict__#set")]),#[]⟩
noncomputable def o898:Obj:=⟨(.type "getset_descriptor"),none,(.fields #[(vs "__weakref__" 1470),(.ref 896),(.builtin "ExceptionGroup.__weakref__"),.none]),#[]⟩
noncomputable def o899:Obj:=⟨(.type "super"),none,(.fields #[(.ref 896),(.ref 896),(.ref 896)]),#[]⟩
noncomputable def o900:Obj:=⟨(.type "builtin_function_or_method"),none,(.fields #[(.builtin "object.__init_subclass__"),(.ref 896)]),#[]⟩
noncomputable def L7 (P:Params):List Obj:=List.append (upL [(3,NR P),(12,LD)] (L6 P)) ([tE,o769,o770 P,tE,o772,o773,o774,tE,fE,nT ["self","begin","body","end","fields","kind"] 1299,tE,fA (mN 138 0) "Part.__init__",kyR "__init__" "Part.__init__" 1296 702 6 775 777 1305,o781,tE,fE,fA (mN 138 1) "Part.told",kyQ "told" "Part.told" 1308 712 1 782 .none .none (.ref 784) 1311,o786,o787,o788 P,o789,o790,o791,o792,o793]++(fU 139 "encoding_of" 1330 716 1 794 m4_++(fV 140 "boundary_way" ["line","boundary","mark","rest"] 1336 725 2 799 m4_++(fV 141 "part_spans" ["data","at","end","boundary","found","begun","before","first","last","behind","way"] 1346 733 4 806 m4_++(fU 142 "kid_spans" 1363 749 2 813 m4_++(fV 143 "has_inner" ["part"] 1369 756 1 818 m4_++(fU 144 "read_part" 1376 758 5 825 m4_++(fV 145 "read_message" ["data"] 1382 769 1 830 m4_++(fV 146 "undone" ["encoding","octets"] 1389 771 2 837 m4_++(fV 147 "body_octets" ["data","part"] 1397 777 2 844 m4_++([o851]++(fU 152 "fields_told" 1415 783 1 852 m0_++(fV 153 "bare_piece" ["told_piece"] 1421 785 1 857 m0_++([tE,o865,o866 P,tE,o868,o869,o870,o871,o872,tE,fE,nT ["self","kind","octets","fields"] 1443,tE,fA (mN 154 0) "Leaf.__init__",o878,o879,tE,fE,nT ["self"] 1453,tE,fA (mN 154 1) "Leaf.told",kyR "told" "Leaf.told" 1450 794 1 880 882 1454,o886,tE,fE,nT ["self"] 1460,tE,fA (mN 154 2) "Leaf.depth",kyR "depth" "Leaf.depth" 1457 797 1 887 889 1461,o893,o894,o895 P,o896,o897,o898,o899,o900]))))))))))))))
noncomputable def S7 (w:World) (os:OsState):SharedT:=⟨mkT 12 (L7 w.params),901,{},⟨[]⟩,{},1475,os⟩
theorem p7 (w:World) (p:Program) (b:List Stmt) (os:OsState):TW TB p w 11 (some (.ref 6)) 1 915 (S6 w os) (piecesOf (seg 138 17) cR (.body b cR) ⟨699,0,699,6⟩ [topFrame ⟨0,0,0,0⟩])=some (.next,S7 w os,.body b cR,⟨787,0,798,16⟩):=by kernel_rfl
noncomputable def FK (P:Params):List DictEntry:=List.append (upE [] (FJ P)) [dr P "Many" 1519 929,dr P "Letter822" 1565 966,dr P "is_seven_bit" 1571 975,dr P "choose_encoding" 1579 982,dr P "in_encoding" 1588 989,dr P "begins_line" 1594 994,dr P "boundary_for" 1600 999,dr P "check_fields" 1607 1006,dr P "head_octets" 1613 1011,dr P "leaf_octets" 1622 1018,dr P "joined_bodies" 1628 1023,dr P "many_octets" 1634 1028,dr P "letter_octets" 1641 1035,dr P "built" 1648 1042,dr P "letter_whole" 1656 1049,dr P "check_depth" 1664 1056,dr P "build" 1671 1063]
noncomputable def NS (P:Params):Obj:=⟨.type "dict",none,.dict (FK P).toArray 169,#[]⟩
noncomputable def eo12_8:List Value:=List.append eo12_7 (tR [(799,906),(811,939),(823,974),(831,981),(835,988),(839,993),(841,998),(849,1005),(852,1010),(858,1017),(864,1022),(867,1027),(874,1034),(876,1041),(880,1048),(883,1055),(886,1062)])
noncomputable def LE:Obj:=⟨.none,none,.fields eo12_8.toArray,#[]⟩
noncomputable def o902:Obj:=⟨(.type "builtin_function_or_method"),none,(.fields #[(.builtin "type.__prepare__"),(.type "type")]),#[]⟩
noncomputable def o903 (P:Params):Obj:=⟨(.type "dict"),none,(.dict #[de P "__module__" 1482 m0_,de P "__qualname__" 1484 (vs "Many" 1483),de P "__firstlineno__" 1486 (.int 799 1485),de P "__init__" 1496 (.ref 916),de P "told" 1502 (.ref 921),de P "depth" 1508 (.ref 926),de P "__static_attributes__" 1512 (.ref 927)] 7),#[]⟩
noncomputable def o905:Obj:=⟨.none,none,(.fields #[(.int 801 0),(.int 4 0),(.ref 915),(.int 806 0),(.int 4 0),(.ref 920),(.int 809 0),(.int 4 0),(.ref 925)]),#[]⟩
noncomputable def o906:Obj:=⟨(.type "code"),none,(.fields #[(vs "Many" 1477),(vs "Many" 1478),(vs "/claim/cut.py" 1479),(.int 799 0),(.int 0 0),(.int 0 0),(.int 0 0),(.int 0 0),(.ref 904),(.bool false),(.int 181 0),(.ref 905),.none,.none,.none,.none,(.int 1480 0),(.int 799 0),(vs "/claim/cut.py" 1481)]),#[]⟩
noncomputable def o907:Obj:=⟨(.type "frame"),none,.plain,#[(some (.ref 906)),(some (.ref 3)),(some (.ref 903)),none,(some m0_),none,(some (.ref 0))]⟩
noncomputable def o908:Obj:=tE
noncomputable def o909:Obj:=⟨(.type "tuple"),none,(.seq #[(.ref 908)] 0),#[]⟩
noncomputable def o915:Obj:=kyR "__init__" "Many.__init__" 1487 801 4 910 912 1494
noncomputable def o916:Obj:=fB (mN 155 0) "Many.__init__" (.ref 909) m0_ (.ref 915)
noncomputable def o921:Obj:=fB (mN 155 1) "Many.told" .none m0_ (.ref 920)
noncomputable def o926:Obj:=fB (mN 155 2) "Many.depth" .none m0_ (.ref 925)
noncomputable def o927:Obj:=nT ["fields","pieces","sub"] 1509
noncomputable def o928 (P:Params):Obj:=⟨(.type "dict"),none,(.dict #[de P "__module__" 1482 m0_,de P "__firstlineno__" 1486 (.int 799 1485),de P "__init__" 1496 (.ref 916),de P "told" 1502 (.ref 921),de P "depth" 1508 (.ref 926),de P "__static_attributes__" 1512 (.ref 927),de P "__dict__" 1514 (.ref 930),de P "__weakref__" 1516 (.ref 931),de P "__doc__" 1517 .none] 4),#[]⟩
noncomputable def o929:Obj:=⟨(.type "type"),none,(.cls {name:="Many",bases:=[(.type "object")],mro:=[(.ref 929),(.type "object")],ns:=928,qualname:="Many",hasDict:=true,slotNames:=[],subclasses:=[],abstract:=false,collection:=none,hasDel:=false}),#[none,none,(some (vs "Many" 1475)),(some (vs "Many" 1483)),(some (.builtin "object.__new__")),(some (.bool true))]⟩
noncomputable def o930:Obj:=⟨(.type "getset_descriptor"),none,(.fields #[(vs "__dict__" 1513),(.ref 929),(.builtin "function.__dict__"),(.builtin "function.__dict__#set")]),#[]⟩
noncomputable def o931:Obj:=⟨(.type "getset_descriptor"),none,(.fields #[(vs "__weakref__" 1515),(.ref 929),(.builtin "ExceptionGroup.__weakref__"),.none]),#[]⟩
noncomputable def o932:Obj:=⟨(.type "super"),none,(.fields #[(.ref 929),(.ref 929),(.ref 929)]),#[]⟩
noncomputable def o933:Obj:=⟨(.type "builtin_function_or_method"),none,(.fields #[(.builtin "object.__init_subclass__"),(.ref 929)]),#[]⟩
noncomputable def o935:Obj:=⟨(.type "builtin_function_or_method"),none,(.fields #[(.builtin "type.__prepare__"),(.type "type")]),#[]⟩
noncomputable def o936 (P:Params):Obj:=⟨(.type "dict"),none,(.dict #[de P "__module__" 1527 m0_,de P "__qualname__" 1529 (vs "Letter822" 1528),de P "__firstlineno__" 1531 (.int 811 1530),de P "__init__" 1540 (.ref 949),de P "told" 1548 (.ref 956),de P "depth" 1555 (.ref 963),de P "__static_attributes__" 1558 (.ref 964)] 7),#[]⟩
noncomputable def o938:Obj:=⟨.none,none,(.fields #[(.int 813 0),(.int 4 0),(.ref 948),(.int 817 0),(.int 4 0),(.ref 955),(.int 821 0),(.int 4 0),(.ref 962)]),#[]⟩
noncomputable def o939:Obj:=⟨(.type "code"),none,(.fields #[(vs "Letter822" 1522),(vs "Letter822" 1523),(vs "/claim/cut.py" 1524),(.int 811 0),(.int 0 0),(.int 0 0),(.int 0 0),(.int 0 0),(.ref 937),(.bool false),(.int 181 0),(.ref 938),.none,.none,.none,.none,(.int 1525 0),(.int 811 0),(vs "/claim/cut.py" 1526)]),#[]⟩
noncomputable def o940:Obj:=⟨(.type "frame"),none,.plain,#[(some (.ref 939)),(some (.ref 3)),(some (.ref 936)),none,(some m0_),none,(some (.ref 0))]⟩
noncomputable def o941:Obj:=tE
noncomputable def o942:Obj:=⟨(.type "tuple"),none,(.seq #[(.ref 941)] 0),#[]⟩
noncomputable def o948:Obj:=kyR "__init__" "Letter822.__init__" 1532 813 3 943 945 1538
noncomputable def o949:Obj:=fB (mN 156 0) "Letter822.__init__" (.ref 942) m0_ (.ref 948)
noncomputable def o956:Obj:=fB (mN 156 1) "Letter822.told" .none m0_ (.ref 955)
noncomputable def o963:Obj:=fB (mN 156 2) "Letter822.depth" .none m0_ (.ref 962)
noncomputable def o964:Obj:=nT ["fields","piece"] 1556
noncomputable def o965 (P:Params):Obj:=⟨(.type "dict"),none,(.dict #[de P "__module__" 1527 m0_,de P "__firstlineno__" 1531 (.int 811 1530),de P "__init__" 1540 (.ref 949),de P "told" 1548 (.ref 956),de P "depth" 1555 (.ref 963),de P "__static_attributes__" 1558 (.ref 964),de P "__dict__" 1560 (.ref 967),de P "__weakref__" 1562 (.ref 968),de P "__doc__" 1563 .none] 4),#[]⟩
noncomputable def o966:Obj:=⟨(.type "type"),none,(.cls {name:="Letter822",bases:=[(.type "object")],mro:=[(.ref 966),(.type "object")],ns:=965,qualname:="Letter822",hasDict:=true,slotNames:=[],subclasses:=[],abstract:=false,collection:=none,hasDel:=false}),#[none,none,(some (vs "Letter822" 1520)),(some (vs "Letter822" 1528)),(some (.builtin "object.__new__")),(some (.bool true))]⟩
noncomputable def o967:Obj:=⟨(.type "getset_descriptor"),none,(.fields #[(vs "__dict__" 1559),(.ref 966),(.builtin "function.__dict__"),(.builtin "function.__dict__#set")]),#[]⟩
noncomputable def o968:Obj:=⟨(.type "getset_descriptor"),none,(.fields #[(vs "__weakref__" 1561),(.ref 966),(.builtin "ExceptionGroup.__weakref__"),.none]),#[]⟩
noncomputable def o969:Obj:=⟨(.type "super"),none,(.fields #[(.ref 966),(.ref 966),(.ref 966)]),#[]⟩
noncomputable def o970:Obj:=⟨(.type "builtin_function_or_method"),none,(.fields #[(.builtin "object.__init_subclass__"),(.ref 966)]),#[]⟩
noncomputable def L8 (P:Params):List Obj:=List.append (upL [(3,NS P),(12,LE)] (L7 P)) ([tE,o902,o903 P,tE,o905,o906,o907,o908,o909,tE,fE,nT ["self","sub","pieces","fields"] 1490,tE,fA (mN 155 0) "Many.__init__",o915,o916,tE,fE,fA (mN 155 1) "Many.told",kyQ "told" "Many.told" 1497 806 1 917 .none .none (.ref 919) 1500,o921,tE,fE,fA (mN 155 2) "Many.depth",kyQ "depth" "Many.depth" 1503 809 1 922 .none .none (.ref 924) 1506,o926,o927,o928 P,o929,o930,o931,o932,o933,tE,o935,o936 P,tE,o938,o939,o940,o941,o942,tE,fE,nT ["self","piece","fields"] 1535,tE,fA (mN 156 0) "Letter822.__init__",o948,o949,tE,fE,nT ["self","rest"] 1544,tE,fA (mN 156 1) "Letter822.told",kyR "told" "Letter822.told" 1541 817 1 950 952 1546,o956,tE,fE,nT ["self"] 1552,tE,fA (mN 156 2) "Letter822.depth",kyR "depth" "Letter822.depth" 1549 821 1 957 959 1553,o963,o964,o965 P,o966,o967,o968,o969,o970]++(fU 157 "is_seven_bit" 1566 823 1 971 m0_++(fV 158 "choose_encoding" ["octets","is_text"] 1572 831 2 976 m0_++(fV 159 "in_encoding" ["encoding","octets","is_text"] 1580 835 3 983 m0_++(fU 160 "begins_line" 1589 839 2 990 m0_++(fU 161 "boundary_for" 1595 841 1 995 m0_++(fV 162 "check_fields" ["fields"] 1601 849 1 1000 m0_++(fU 163 "head_octets" 1608 852 3 1007 m0_++(fV 164 "leaf_octets" ["leaf","kind","encoding"] 1614 858 1 1012 m0_++(fU 165 "joined_bodies" 1623 864 2 1019 m0_++(fU 166 "many_octets" 1629 867 1 1024 m0_++(fV 167 "letter_octets" ["letter"] 1635 874 1 1029 m0_++(fV 168 "built" ["piece"] 1642 876 1 1036 m0_++(fV 169 "letter_whole" ["piece","fields"] 1649 880 2 1043 m0_++(fV 170 "check_depth" ["piece","most"] 1657 883 2 1050 m0_++(fV 171 "build" ["piece"] 1665 886 1 1057 m0_))))))))))))))))
noncomputable def S8 (w:World) (os:OsState):SharedT:=⟨mkT 12 (L8 w.params),1064,{},⟨[]⟩,{},1672,os⟩
theorem p8 (w:World) (p:Program) (b:List Stmt) (os:OsState):TW TB p w 11 (some (.ref 6)) 1 1000 (S7 w os) (piecesOf (seg 155 17) cR (.body b cR) ⟨787,0,798,16⟩ [topFrame ⟨0,0,0,0⟩])=some (.next,S8 w os,.body b cR,⟨886,0,888,23⟩):=by kernel_rfl
noncomputable def u7 (P:Params):List DictEntry:=List.append (upE [(0,m9_)] (FK P)) [dr P "message" 1679 1070,dr P "own_fields" 1686 1077,dr P "tree_of" 1692 1082,dr P "letter_tree" 1700 1089,dr P "_law_kinds" 1715 1100,dr P "_law_octets" 1728 1101,dr P "_law_draw" 1738 1108,dr P "_law_fields" 1747 1115,dr P "_law_bare" 1754 1122,dr P "_law_piece" 1760 1127,dr P "_law_is_plain" 1766 1132,dr P "law" 1772 1137]
noncomputable def EC (P:Params):Obj:=⟨.type "dict",none,.dict (u7 P).toArray 181,#[]⟩
noncomputable def eo12_9:List Value:=List.append eo12_8 (tR [(889,1069),(892,1076),(894,1081),(900,1088),(905,1107),(910,1114),(914,1121),(916,1126),(930,1131),(937,1136)])
noncomputable def LF:Obj:=⟨.none,none,.fields eo12_9.toArray,#[]⟩
noncomputable def o1090:Obj:=nT ["charset","utf-8"] 1705
noncomputable def o1091:Obj:=⟨(.type "tuple"),none,(.seq #[(.ref 1090)] 0),#[]⟩
noncomputable def o1092:Obj:=⟨(.type "tuple"),none,(.seq #[(vs "text" 1703),(vs "plain" 1704),(.ref 1091)] 0),#[]⟩
noncomputable def o1093:Obj:=tE
noncomputable def o1094:Obj:=⟨(.type "tuple"),none,(.seq #[(vs "text" 1707),(vs "html" 1708),(.ref 1093)] 0),#[]⟩
noncomputable def o1095:Obj:=nT ["name","a b"] 1711
noncomputable def o1096:Obj:=⟨(.type "tuple"),none,(.seq #[(.ref 1095)] 0),#[]⟩
noncomputable def o1097:Obj:=⟨(.type "tuple"),none,(.seq #[(vs "application" 1709),(vs "x-a" 1710),(.ref 1096)] 0),#[]⟩
noncomputable def o1098:Obj:=tE
noncomputable def o1099:Obj:=⟨(.type "tuple"),none,(.seq #[(vs "image" 1713),(vs "png" 1714),(.ref 1098)] 0),#[]⟩
noncomputable def o1100:Obj:=⟨(.type "tuple"),none,(.seq #[(.ref 1092),(.ref 1094),(.ref 1097),(.ref 1099)] 0),#[]⟩
noncomputable def o1101:Obj:=⟨(.type "tuple"),none,(.seq #[(.bytes #[] 1716),(.bytes #[97,13,10,98] 1717),(.bytes #[45,45,61,95,112,97,114,116,48,13,10,120] 1718),(.bytes #[0,255] 1719),(.bytes #[99,97,102,195,169,32,61,32,13,10] 1720),(.bytes #[120,10] 1721),(.bytes #[101,110,100,32,13,10] 1722),(.bytes #[45,45,61,95,112,97,114,116,49,45,45,13,10,45,45,61,95,112,97,114,116,48,45,45] 1723),(.bytes #[97,13,98] 1724),(.bytes #[32] 1725),(.bytes #[13,10] 1726),(.bytes #[67,111,110,116,101,110,116,45,84,121,112,101,58,32,116,101,120,116,47,104,116,109,108,13,10,13,10,46] 1727)] 0),#[]⟩
noncomputable def o1137:Obj:=bO 184 "law" m9_ 1136
noncomputable def L9 (P:Params):List Obj:=List.append (upL [(3,EC P),(12,LF)] (L8 P)) (fV 172 "message" ["piece","fields"] 1672 889 2 1064 m0_++(fV 173 "own_fields" ["part"] 1680 892 1 1071 m0_++(fU 174 "tree_of" 1687 894 2 1078 m0_++(fV 175 "letter_tree" ["data","part"] 1693 900 2 1083 m0_++([o1090,o1091,o1092,o1093,o1094,o1095,o1096,o1097,o1098,o1099,o1100,o1101]++(fV 179 "_law_draw" ["tape","limit","cells","at"] 1729 905 2 1102 m9_++(fV 180 "_law_fields" ["tape","drawn","fields"] 1739 910 1 1109 m9_++(fV 181 "_law_bare" ["due"] 1748 914 1 1116 m9_++(fU 182 "_law_piece" 1755 916 2 1123 m9_++(fU 183 "_law_is_plain" 1761 930 1 1128 m9_++([tE,fE,aO 184 "law",kyA "law" 1767 937 1 1133 1135 1770,o1137])))))))))))
noncomputable def S9 (w:World) (os:OsState):SharedT:=⟨mkT 12 (L9 w.params),1138,{},⟨[]⟩,{},1773,os⟩
theorem p9 (w:World) (p:Program) (b:List Stmt) (os:OsState):TW TB p w 11 (some (.ref 6)) 1 359 (S8 w os) (piecesOf (seg 172 13) cR (.body b cR) ⟨886,0,888,23⟩ [topFrame ⟨0,0,0,0⟩])=some (.next,S9 w os,.body b cR,⟨937,0,957,15⟩):=by kernel_rfl
end
theorem IQ (p:Program) (w:World) (n:Nat) (S:SharedT) (th:Thread):
  segRunT treeTable p w 11 (some (Value.ref 6)) 1 n S th=TW TB p w 11 (some (Value.ref 6)) 1 n S th:=by
 rw [PySem.W.Fast.te10110043849684766642,PySem.W.Fast.te14364793385576792824]
theorem piece {p:Program} {w:World} {n:Nat} {S S':SharedT} {th:Thread} {f:Flow} {c:Code} {q:Pos} (h:TW TB p w 11 (some (.ref 6)) 1 n S th=some (f,S',c,q)):
  segRun treeTable p w 11 (some (.ref 6)) 1 n S.abs th=some (f,S'.abs,c,q):=segRun_of ((IQ ..).trans h)
noncomputable abbrev B0:List Frame:=[topFrame ⟨0,0,0,0⟩]
theorem IR (p:Program) (b:List Stmt) (w:World) (os:OsState) (N:Nat) (r:Shared)
  (h:topRun treeTable p w 11 (some (.ref 6)) N (S9 w os).abs (restOf [] cR (.body b cR) ⟨937,0,957,15⟩ B0)=some r):
  topRun treeTable p w 11 (some (.ref 6)) (1000+(991+(986+(972+(862+(915+(1000+(359+(N))))))))) (S1 w os).abs (restOf (seg 0 17++(seg 17 12++(seg 29 37++(seg 66 32++(seg 98 40++(seg 138 17++(seg 155 17++(seg 172 13++[])))))))) cR (.body b cR) ⟨0,0,0,0⟩ B0)=some r:=
 piece_app (piece (p2 w p b os)) (piece_app (piece (p3 w p b os)) (piece_app (piece (p4 w p b os)) (piece_app (piece (p5 w p b os)) (piece_app (piece (p6 w p b os)) (piece_app (piece (p7 w p b os)) (piece_app (piece (p8 w p b os)) (piece_app (piece (p9 w p b os)) (h))))))))
noncomputable abbrev bd:List Stmt:=behindTheImports pw
theorem ED:(seg 0 17++(seg 17 12++(seg 29 37++(seg 66 32++(seg 98 40++(seg 138 17++(seg 155 17++(seg 172 13++[]))))))))=bd:=by kernel_rfl
noncomputable abbrev DN:=PySem.W.Fast.tw11892475500146522536
theorem pre0 (w:World) (os:OsState):PySem.W.Fast.tw15667345088766844465 TB pw w 11 (some (.ref 6)) 12 ⟨boot_heap w.params,⟨[]⟩,boot_drawn,boot_toks,os⟩ (topStub pw)=
  some ((S1 w os).abs,⟨DN TB (.body bd cR),.body bd cR,⟨0,0,0,0⟩,B0⟩):=by kernel_rfl
theorem pre1 (w:World) (os:OsState):topGo treeTable pw w 11 (some (.ref 6)) 12 ⟨boot_heap w.params,⟨[]⟩,boot_drawn,boot_toks,os⟩ (topStub pw)=
  some ((S1 w os).abs,⟨denote treeTable (.body bd cR),.body bd cR,⟨0,0,0,0⟩,B0⟩):=by
 rw [PySem.W.Fast.te15667345088766844465,PySem.W.Fast.te11892475500146522536,PySem.W.Fast.te14364793385576792824]
 exact pre0 w os
theorem block1 (w:World) (os:OsState):segRun treeTable pw w 11 (some (.ref 6)) 1 1 (S1 w os).abs (blockOf bd cR (.body bd cR) ⟨0,0,0,0⟩ B0)=some (.next,(S1 w os).abs,.body bd cR,⟨0,0,0,0⟩):=by kernel_rfl
theorem fin1 (w:World) (os:OsState):topRun treeTable pw w 11 (some (.ref 6)) 2 (S9 w os).abs (restOf [] cR (.body bd cR) ⟨937,0,957,15⟩ B0)=some (S9 w os).abs:=by kernel_rfl
theorem opening1:opening pw=plainProg pw.main.scope.names:=by kernel_rfl
theorem fence1 (s:Shared):fenceModules? pw s=some s:=by kernel_rfl
theorem size1 (w:World):((boot_heap w.params).isNs mainGlobals && (⟨[]⟩:Array GenState).size == 0,(boot_heap w.params).objs.size,(boot_heap w.params).nsMap mainGlobals "__annotations__")=(true,11,some (.ref 6)):=by kernel_rfl
noncomputable def HF (P:Params):Heap:=absHeap (mkT 12 (L9 P)) 1138 {}
theorem IS (w:World) (os:OsState):(S9 w os).abs=⟨HF w.params,⟨[]⟩,{},1773,os⟩:=by kernel_rfl
theorem run1 (w:World) (os:OsState):topRun treeTable pw w 11 (some (.ref 6)) (12+(1+(1000+(991+(986+(972+(862+(915+(1000+(359+(2))))))))))) ⟨boot_heap w.params,⟨[]⟩,boot_drawn,boot_toks,os⟩ (topStub pw)=
  some ⟨HF w.params,⟨[]⟩,{},1773,os⟩:=by
 have h:=IR pw bd w os 2 _ (fin1 w os)
 rw [ED,IS] at h
 exact go_top (pre1 w os) (piece_block (block1 w os) h)
noncomputable section
noncomputable def qL:Program:={pw with main:={pw.main with body:=pw.main.body.drop 184}}
noncomputable def dX:List Str:=["_wall","SIGNS","PAD","LINE_END","worth_table","group_codes","group_octets","part_encoded","one_line","in_lines","encoded","decoded","PostError","WordFault","MimeFault","CRLF","RETURN_octets","MOST_FIGURES","Cursor","lower_code","lower","lower_text","line_spans","WHITE_headers","Field","line_at","is_name","colon_in","read_spans","read_fields","rows_of","unfolded","first_body","without_words","is_sound","write_fields","ASCII","LATIN","UTF8","CHARSETS","UNKNOWN_SIGN","charset_names","charset_name","need_charset","utf8_length","utf8_octets","follower_span","utf8_sign","sign_at","text_in","strict_text","guessed_text","has_sign","octets_in","MOST_DEPTH_tokens","NEVER_ESCAPED","line_end","inside_at","closed_at","comment_at","escaped_octets","WHITE_params","SEMICOLON","EQUALS_params","QUOTE","BRACKET","PER_CENT","BARRED","BARRED_IN_NAMES","HEX_FIGURES","WIDTH","MOST_NAME","MOST_PARTS","ROOM","Kind","plain_kind","is_token_code","skip_between","take_token","is_worth_code","take_worth","small_word","take_pairs","part_number","part_of","hex_worth","hex_worth_params","percent_decoded","charset_cut","joined_worth","params_of","strict_kind","read_kind","is_token","is_plain","is_plain_params","percent_encoded","in_rows","encoded_rows","quoted_rows","number_octets","param_rows","write_params","write_kind","EQUALS_quoted","BLANK","TAB","RETURN_quoted","LEAST_WIDTH","HEX","quoted_code","hex_worth_quoted","quoted_at","is_plain_quoted","line_pieces","soft_lines","text_lines","quoted_encoded","joined_lines","line_parts","unquoted","quoted_decoded","MOST_DEPTH_parts","PLAIN_ENCODING","OPEN_ENCODINGS","WORD_ENDS","BLANKS","Part","encoding_of","boundary_way","part_spans","kid_spans","has_inner","read_part","read_message","undone","body_octets","MOST_LINE","OWN_WORDS","BOUNDARY_LEAD","fields_told","bare_piece","Leaf","Many","Letter822","is_seven_bit","choose_encoding","in_encoding","begins_line","boundary_for","check_fields","head_octets","leaf_octets","joined_bodies","many_octets","letter_octets","built","letter_whole","check_depth","build","message","own_fields","tree_of","letter_tree","_law_kinds","_law_octets","_law_draw","_law_fields","_law_bare","_law_piece","_law_is_plain"].map Str.ofString
noncomputable abbrev sF (w:World) (os:OsState):Shared:=⟨HF w.params,⟨[]⟩,{},1773,os⟩
theorem lk0 (w:World):gensDone (sF w {})=true:=by kernel_rfl
theorem lk1 (w:World):laidKept (boot_heap w.params) (HF w.params)=true:=by kernel_rfl
theorem lk2 (w:World):staticsOk (importedModules pw.main.body) (boot_heap w.params) (HF w.params)=true:=by kernel_rfl
theorem lk3 (w:World):namesBound pw (HF w.params)=true:=by kernel_rfl
end
noncomputable section
theorem ls1 (w:World) (os:OsState):seen ((recsOf qL).map (·.name)) (ownsOf qL) [] {sF w os with gens:= #[]}=expectedOf qL:=by kernel_rfl
theorem ls2 (w:World) (os:OsState):(sF w os).heap.bltView=bltViewBooted:=by kernel_rfl
theorem ls3 (w:World) (os:OsState):(sF w os).heap.keysOk (looseW qL dX) ((recsOf qL).map (·.name)) ((litsOf qL).map (·.1)) ((clssOf qL (looseW qL dX)).map (·.name))=true:=by kernel_rfl
theorem ls4 (w:World) (os:OsState):(sF w os).heap.accountedOkI (importedModules pw.main.body)=true:=by kernel_rfl
theorem ls5 (w:World) (os:OsState):((sF w os).heap.isNs mainGlobals && (sF w os).heap.isNs builtinsNs)=true:=by kernel_rfl
theorem ls6 (w:World) (os:OsState):tablesOk qL (sF w os).heap=true:=by kernel_rfl
theorem ls7 (w:World) (os:OsState):tabsOk qL (sF w os)=true:=by kernel_rfl
theorem ls8 (w:World) (os:OsState):pinSeenD qL (drecsOf qL) (sF w os)=pinGoodD (drecsOf qL):=by kernel_rfl
theorem ls9 (w:World) (os:OsState):plainSeenE qL (looseW qL dX) (sF w os)=plainGoodE qL (looseW qL dX):=by kernel_rfl
theorem ls10 (w:World) (os:OsState):plainSeenD qL dX (sF w os)=plainGoodD qL dX:=by kernel_rfl
theorem ls11 (w:World) (os:OsState):wideSeen qL (sF w os)=wideGood qL:=by kernel_rfl
theorem ls12 (w:World) (os:OsState):clsSeenW qL dX (sF w os)=clsGoodW qL dX:=by kernel_rfl
end
abbrev rl:=PySem.Challenge.rw_no0399_01
theorem wA:sreFenced rl.row.prog.main=true:=by rw [PySem.W.Fast.te11788848310118352699];kernel_rfl
theorem wB:namesResolve rl.row.prog=true:=by rw [PySem.W.Fast.te8377067652309620493];kernel_rfl
theorem wC:(rl.row.prog.boundNames.all fun n=> !worldNames.contains n)=true:=by rw [PySem.W.Fast.te18344453789297297638];kernel_rfl
theorem NT:readsOut rl.row.prog rl.row.prog.main.body "vars"=false:=by rw [PySem.W.Fast.te13343964577679436407];kernel_rfl
theorem NU:readsOut rl.row.prog rl.row.prog.main.body "dir"=false:=by rw [PySem.W.Fast.te13343964577679436407];kernel_rfl
theorem NV:readsOut rl.row.prog rl.row.prog.main.body "locals"=false:=by rw [PySem.W.Fast.te13343964577679436407];kernel_rfl
theorem IT:List.filter (readsOut rl.row.prog rl.row.prog.main.body) ["vars","dir","locals"]=[]:=by
 rw [List.filter_cons_of_neg (by rw [NT];decide),List.filter_cons_of_neg (by rw [NU];decide),List.filter_cons_of_neg (by rw [NV];decide)];rfl
theorem AZ:(!(importedModules rl.row.prog.main.body).all cThrough.contains)=false:=by rw [PySem.W.Fast.te5923862056798008813];kernel_rfl
theorem wD:noRoadLSs {strict:= !(importedModules rl.row.prog.main.body).all cThrough.contains,foot:=none,bare:=List.filter (readsOut rl.row.prog rl.row.prog.main.body) ["vars","dir","locals"]} rl.row.prog.main.body=true:=by
 rw [IT,AZ,PySem.W.Fast.te8326940854005059898];kernel_rfl
noncomputable def eX:TablesWhole.Alg Bool:=⟨fun sc n _=>PySem.W.Fast.tw15985051520779696433 sc n,fun _ _ _ ok=>ok,fun _=>true,true,false,fun a b=>a && b⟩
theorem IU:TablesWhole.holds=eX:=by
 unfold TablesWhole.holds eX
 rw [PySem.W.Fast.te15985051520779696433]
theorem A1 (top sc:Scope) (cx:TablesWhole.Ctx) (s:Stmt) (l:List Stmt):TablesWhole.wSs eX top cx sc (s::l)=(TablesWhole.wS eX top cx sc s && TablesWhole.wSs eX top cx sc l):=by kernel_rfl
theorem A2 (top sc:Scope) (cx:TablesWhole.Ctx) (l':List Stmt):∀ l,TablesWhole.wSs eX top cx sc l=true→TablesWhole.wSs eX top cx sc l'=true→TablesWhole.wSs eX top cx sc (l++l')=true
 | [],_,h=>h
 |s::l,h,h'=>by
  have h:=Bool.and_eq_true_iff.mp ((A1 top sc cx s l).symm.trans h)
  exact (A1 top sc cx s (l++l')).trans (Bool.and_eq_true_iff.mpr ⟨h.1,A2 top sc cx l' l h.2 h'⟩)
noncomputable abbrev q_mb:List Stmt:=rl.row.prog.main.body
noncomputable abbrev gN:Scope:=rl.row.prog.main.scope
theorem IV:TablesWhole.wSs TablesWhole.gather gN ⟨gN,[],[],[],none⟩ gN q_mb=[]:=by
 rw [PySem.W.Fast.te16421684217811934046,PySem.W.Fast.te12652042256554560961];kernel_rfl
theorem EE:TablesWhole.noTwice gN=true:=by rw [PySem.W.Fast.te8331962902438777018];kernel_rfl
theorem NW:TablesWhole.wSs eX gN ⟨gN,[],[],[],none⟩ gN (q_mb.take 60)=true:=by rw [PySem.W.Fast.te16421684217811934046];kernel_rfl
theorem NX:TablesWhole.wSs eX gN ⟨gN,[],[],[],none⟩ gN ((q_mb.drop 60).take 60)=true:=by rw [PySem.W.Fast.te16421684217811934046];kernel_rfl
theorem NY:TablesWhole.wSs eX gN ⟨gN,[],[],[],none⟩ gN ((q_mb.drop 60).drop 60)=true:=by rw [PySem.W.Fast.te16421684217811934046];kernel_rfl
theorem LG (m:Module) (hg:TablesWhole.wSs TablesWhole.gather m.scope ⟨m.scope,[],[],[],none⟩ m.scope m.body=[]) (hn:TablesWhole.noTwice m.scope=true)
  (h:TablesWhole.wSs eX m.scope ⟨m.scope,[],[],[],none⟩ m.scope m.body=true):TablesWhole.wModule TablesWhole.holds m=true:=by
 unfold TablesWhole.wModule
 rw [IU,hg]
 show (true && (TablesWhole.noTwice m.scope && (TablesWhole.wSs eX m.scope ⟨m.scope,[],[],[],none⟩ m.scope m.body && true)))=true
 rw [hn,h];rfl
theorem IW (p:Program) (h:TablesWhole.wModule TablesWhole.holds p.main=true) (h1:p.modules=[]) (h2:p.parses=[]) (h3:p.harvested=[]):p.tablesWhole=true:=by
 unfold Program.tablesWhole TablesWhole.wProgram
 rw [h1,h2,h3]
 show (TablesWhole.wModule TablesWhole.holds p.main && _)=true
 rw [h];rfl
theorem A3:rl.row.prog.tablesWhole=true:=by
 have h:=A2 gN gN ⟨gN,[],[],[],none⟩ _ _ NW (A2 _ _ _ _ _ NX NY)
 rw [List.take_append_drop,List.take_append_drop] at h
 exact IW _ (LG _ IV EE h) rfl rfl rfl
theorem wE:(namesMeet rl.row.prog rl.row.prog.main.body fun x n=>attrL n)=true:=by rw [PySem.W.Fast.te17119622794617984870];kernel_rfl
theorem wF:rl.row.prog.boundNames.contains rl.row.name=true:=by rw [PySem.W.Fast.te18344453789297297638];kernel_rfl
theorem wG:rl.footing.all footLine=true:=by rw [PySem.W.Fast.te10501279942588096481];kernel_rfl
theorem wH:noClassBlock rl.prog rl.footing=true:=by rw [PySem.W.Fast.te8179353310426384613];kernel_rfl
theorem wI:noRoadLSs {strict:=true,foot:=some rl.bound',writes:=rl.writes,may:=rl.may} rl.footing=true:=by rw [PySem.W.Fast.te8326940854005059898,PySem.W.Fast.te797321630700447069];kernel_rfl
theorem wJ:defStands rl.about rl.above=true:=by rw [PySem.W.Fast.te9558739934217749035];kernel_rfl
theorem wK:rl.namesIt=true:=by rw [PySem.W.Fast.te16286561074155671207];kernel_rfl
theorem wL:(rl.bound'.all fun n=> !builtinNamed n || rl.about == [n] || !rl.reads n)=true:=by rw [PySem.W.Fast.te797321630700447069,PySem.W.Fast.named_eq];kernel_rfl
theorem wM:(namesMeet rl.prog rl.footing fun sc n=>
   (!(["type","isinstance","issubclass","getattr","hasattr"]:List Str).contains n || sc.names.lookup n == some .globalImplicit) &&
    (rl.may !=some n || sc.kind == .module || sc.names.lookup n == some .globalImplicit))=true:=by rw [PySem.W.Fast.te17119622794617984870];kernel_rfl
theorem wN:rl.own.contains rl.name=true:=by kernel_rfl
theorem wO:(rl.own.all fun n=> !builtinNamed n)=true:=by kernel_rfl
theorem wP:(namesMeet rl.prog rl.above fun _ n=> !rl.own.contains n)=true:=by rw [PySem.W.Fast.te17119622794617984870];kernel_rfl
theorem wQ:(namesMeet rl.prog rl.footing fun sc n=>sc.kind == .module || sc.names.lookup n !=some .globalExplicit)=true:=by rw [PySem.W.Fast.te17119622794617984870];kernel_rfl
theorem ws:rl.wellSaid=true:=by
 unfold OpenLaw.wellSaid OpenRow.wellSaid OpenRow.partSaid looksOpen
 repeat' (with_reducible refine look_both ?_ ?_)
 all_goals (first |with_reducible exact wA |with_reducible exact wB |with_reducible exact wC |with_reducible exact wD |with_reducible exact wE |with_reducible exact wF |with_reducible exact wG |with_reducible exact wH |with_reducible exact wI |with_reducible exact wJ |with_reducible exact wK |with_reducible exact wL |with_reducible exact wM |with_reducible exact wN |with_reducible exact wO |with_reducible exact wP |with_reducible exact wQ |kernel_rfl)
noncomputable section
theorem o0:∀ (l:List Obj) (i:Nat),(alt true l)[i]? =l[2 * i]?∧(alt false l)[i]? =l[2 * i+1]?
 | [],i=>by simp [alt]
 |a::l,i=>by
  have h:=o0 l
  constructor
  ·cases i with
   |zero=>simp [alt]
   |succ i=>rw [show alt true (a::l)=a::alt false l from rfl,List.getElem?_cons_succ,(h i).2,show 2 * (i+1)=(2 * i+1)+1 by lia,List.getElem?_cons_succ]
  ·rw [show alt false (a::l)=alt true l from rfl,(h i).1,List.getElem?_cons_succ]
theorem u8:∀ (l:List Obj),(alt true l).length=(l.length+1) / 2∧(alt false l).length=l.length / 2
 | []=>by simp [alt]
 |a::l=>by
  have h:=u8 l
  constructor
  ·rw [show alt true (a::l)=a::alt false l from rfl,List.length_cons,h.2,List.length_cons];lia
  ·rw [show alt false (a::l)=alt true l from rfl,h.1,List.length_cons]
theorem o4:∀ (n:Nat) (l:List Obj) (i:Nat),l.length < 2 ^ n→(mkT n l).get i=l[i]?
 |0,l,i,h=>by
  have:l=[]:=List.length_eq_zero_iff.mp (by simpa using h)
  subst this;simp [mkT,BT.get]
 |n+1,[],i,_=>by simp [mkT,BT.get]
 |n+1,o::l,i,h=>by
  have hl:=u8 l
  have e:(2:Nat) ^ (n+1)=2 * 2 ^ n:=by rw [Nat.pow_succ];lia
  rw [List.length_cons,e] at h
  rw [show mkT (n+1) (o::l)= .node o (mkT n (alt true l)) (mkT n (alt false l)) from rfl,BT.get_node]
  by_cases h0:i=0
  ·subst h0;simp
  ·rw [if_neg h0]
   by_cases p:i % 2=1
   ·rw [if_pos p,o4 n _ _ (by lia),(o0 l _).1]
    obtain ⟨j,rfl⟩:∃ j,i=j+1:=⟨i - 1,by lia⟩
    rw [List.getElem?_cons_succ];congr 1;lia
   ·rw [if_neg p,o4 n _ _ (by lia),(o0 l _).2]
    obtain ⟨j,rfl⟩:∃ j,i=j+1:=⟨i - 1,by lia⟩
    rw [List.getElem?_cons_succ];congr 1;lia
noncomputable def A4:List Obj→Nat
 | []=>0
 |_::l=>A4 l+1
theorem u9:∀ l,A4 l=l.length
 | []=>rfl
 |a::l=>by rw [show A4 (a::l)=A4 l+1 from rfl,u9 l];rfl
theorem IX (P:Params):A4 (L9 P)=1138:=by kernel_rfl
noncomputable def iU:List Obj→Bool
 | []=>true
 |o::l=>match o.isFreed with
  |true=>false
  |false=>iU l
theorem iV:∀ {l:List Obj} {i:Nat} {o:Obj},iU l=true→l[i]? =some o→o.isFreed=false
 | [],_,_,_,h=>by simp at h
 |a::l,i,o,hf,h=>by
  unfold iU at hf
  cases e:a.isFreed with
  |true=>rw [e] at hf;cases hf
  |false=>
   rw [e] at hf
   cases i with
   |zero=>simp at h;subst h;exact e
   |succ i=>rw [List.getElem?_cons_succ] at h;exact iV hf h
theorem LH (P:Params):iU (L9 P)=true:=by kernel_rfl
theorem cD (P:Params) {a:Nat} {o:Obj} (h:(L9 P)[a]? =some o):(HF P).get? a=some o:=by
 have hl:(L9 P).length=1138:=by rw [← u9];exact IX P
 have ha:a < 1138:=by
  have:=(List.getElem?_eq_some_iff.mp h).1
  lia
 refine Heap.get?_some_iff.mpr ⟨?_,iV (LH P) h⟩
 unfold HF
 rw [absHeap_at,if_pos ha,o4 12 _ _ (by rw [hl];decide),h]
 rfl
noncomputable def hkF:Hook where
 α:=Heap
 obs:=fun s=>s.heap
 val:=fun w=>HF w.params
 says:=fun w h=>∀ a o,(HF w.params).get? a=some o→h.get? a=some o
 of:=fun w s e a o h=>by rw [e];exact h
 keeps:=fun w h h' x k a o e=>k _ _ (x a o e)
noncomputable def dL:DefRec:=match sN 184 with
 | .FunctionDef n a b _ _ _ sc _ _ q=>{name:=n,params:=a,body:=b,scope:=sc,pos:=q}
 |_=>{name:="",params:=⟨[],[],none,[],[],none,[]⟩,body:=[],scope:=pw.main.scope,pos:=⟨0,0,0,0⟩}
theorem NZ:defOf qL rl.row.name=some (dL,[]):=by kernel_rfl
theorem looks1 (w:World):(fun os=>((staticsOk (importedModules pw.main.body) (boot_heap w.params) (HF w.params) && namesBound pw (HF w.params) && gensDone (sF w os) && laidKept (boot_heap w.params) (HF w.params)),
    openSeen qL dX (importedModules pw.main.body) (fun _=>true) true (sF w os),hkF.obs (sF w os)))=fun _=>(true,openGood qL dX,hkF.val w):=by
 funext os
 have g:gensDone (sF w os)=true:=lk0 w
 refine Prod.ext ?_ (Prod.ext ?_ rfl)
 ·show (_ && _ && _ && _)=true
  rw [lk2,lk3,g,lk1];rfl
 ·have h5:=Bool.and_eq_true_iff.mp (ls5 w os)
  unfold openSeen openGood
  rw [ls1,ls2,ls3,ls4,h5.1,h5.2,ls6,ls7,ls8,ls9,ls10,ls11,ls12]
  rfl
theorem left1:LeftO pw qL dX (fun _=>true) hkF.obs hkF.val 20000:=
 LeftO.of_pieces (H₀:=boot_heap) (H₁:=HF) (boot_open opening1 (by decide) fence1) size1 run1 (by decide) looks1
end
noncomputable section
noncomputable def XPn:(Str→Option Value)→Heap→Prop:=fun _ _=>True
theorem hpL:rl.row.prog.theDef rl.row.name=some (dL.params,dL.body,dL.scope):=by kernel_rfl
theorem hkL:kwWritten? dL.params.kwonlyargs dL.params.kw_defaults=some []:=by kernel_rfl
theorem N0:(chainsOk qL && opensWell rl.row.prog && (frees rl.row.toRowW && rl.row.toRowW.within.isEmpty))=true:=by kernel_rfl
theorem LI:rl.row.prog.bare:=⟨rfl,rfl,rfl,rfl,rfl,A3⟩
theorem LJ:rl.row.toRowW.promised:=by w_witness2
theorem head1 (call:WalkO qL dX XPn hkF.says rl.row.toRowW dL [] fun f vs=>PySem.call f vs):rl.Holds:=
 holds_law ws fun said=>holds_open (r:=rl.row) (q:=qL) (loose:=dX) (Xt:=fun _=>true) (XP:=XPn) (Yf:=hkF.obs) (Ya:=hkF.val) (YP:=hkF.says) (d:=dL) (kwd:=[]) (N:=20000)
  left1 hkF.of hkF.keeps (fun _ _=>trivial) (fun _ _ _ _ _=>trivial) NZ hpL hkL (fun s _=>recFacts_nil rfl) (by rfl) said N0 LI LJ call
end
end Mine
end
section
open PySem PySem.W PySem.Calls PyProof.Rows PySem.SeqAt
namespace Mine
set_option backward.match.sparseCases false
noncomputable abbrev GG:Nat→Option C:=lk gT
noncomputable def fdO (o:Obj):FuncData:=match o.data with | .func fd=>fd |_=>default
noncomputable def vA (fd:FuncData):List Stmt:=match fd.body with | .stmts b=>b |_=>[]
noncomputable def kO (fd:FuncData):Kn:=fun x=>fd.scope.names.lookup x
noncomputable def dF (k:FuncData→Bool):Data→Bool
 | .func fd=>k fd
 |_=>false
noncomputable def bdS (k:List Stmt→Bool):FuncBody→Bool
 | .stmts b=>k b
 |_=>false
noncomputable def dU (k:Value→Bool):Data→Bool
 | .fields us=>(us[1]?).any k
 |_=>false
noncomputable def vQ (k:Str→Bool):Value→Bool
 | .str q _=>k q
 |_=>false
theorem LK {k:FuncData→Bool} {d:Data} (h:dF k d=true):∃ fd,d= .func fd∧k fd=true:=by
 cases d <;> first |exact Bool.noConfusion h |exact ⟨_,rfl,h⟩
theorem IY {k:List Stmt→Bool} {d:FuncBody} (h:bdS k d=true):∃ fd,d= .stmts fd∧k fd=true:=by
 cases d <;> first |exact Bool.noConfusion h |exact ⟨_,rfl,h⟩
theorem LL {k:Str→Bool} {d:Value} (h:vQ k d=true):∃ fd t,d= .str fd t∧k fd=true:=by
 cases d <;> first |exact Bool.noConfusion h |exact ⟨_,_,rfl,h⟩
theorem LM {k:Value→Bool} {d:Data} (h:dU k d=true):∃ us v,d= .fields us∧us[1]? =some v∧k v=true:=by
 cases d with
 |fields us=>
  refine ⟨us,?_⟩
  have h:(us[1]?).any k=true:=h
  rcases e:us[1]? with _ |v <;> rw [e] at h
  ·exact Bool.noConfusion h
  ·exact ⟨v,rfl,rfl,h⟩
 |_=>exact Bool.noConfusion h
noncomputable def LN (f:FDef) (fd:FuncData) (cv:Value) (ps:List Arg):Bool:=decide (fd.closure.isEmpty=true∧fd.globals=3∧fd.builtins=0∧fd.scope.isCoroutine=false∧fd.scope.isGenerator=false∧fd.scope.kind= .function∧
 ps.map (fun p=>enc p.arg)=f.ps∧(∀ p∈ps,a6 p.arg=true)∧f.ps.Nodup∧(∀ p∈ps,fd.scope.names.lookup p.arg=some .local∨fd.scope.names.lookup p.arg=some .cell)∧(∀ q∈fd.scope.names,q.2≠.free)∧fd.code=cv∧
 fd.params.posonlyargs.isEmpty=true∧fd.params.vararg.isNone=true∧fd.params.kwonlyargs.isEmpty=true∧fd.params.kwarg.isNone=true)
theorem EF {p:Arguments} (h:p.posonlyargs.isEmpty=true∧p.vararg.isNone=true∧p.kwonlyargs.isEmpty=true∧p.kwarg.isNone=true):∃ kd dd,p=⟨[],p.args,none,[],kd,none,dd⟩:=by
 rcases p with ⟨a,b,c,d,e,f,g⟩
 have h1:a=[]:=List.isEmpty_iff.mp h.1
 have h2:c=none:=Option.isNone_iff_eq_none.mp h.2.1
 have h3:d=[]:=List.isEmpty_iff.mp h.2.2.1
 have h4:f=none:=Option.isNone_iff_eq_none.mp h.2.2.2
 clear h
 subst h1 h2 h3 h4
 exact ⟨_,_,rfl⟩
noncomputable def LO (f:FDef) (o:Obj) (cv:Value):Bool:=dF (fun fd=>bdS (fun _=>LN f fd cv fd.params.args) fd.body) o.data
noncomputable def FL (fd:FuncData) (oc:Obj):Bool:=dU (vQ fun q=>q == fd.qualname) oc.data
theorem dM (w:World) {a ca:Nat} {f:FDef} {o oc:Obj} (h:(L9 w.params)[a]? =some o) (c:LO f o (.ref ca)=true) (hc:(L9 w.params)[ca]? =some oc) (cc:FL (fdO o) oc=true)
  (text:∃ N,(vA (fdO o)).map (cS GG (kO (fdO o)) N)=f.body) {ds:List Value} (hl:ds.length≤f.ps.length)
  (dflt:((fdO o).defaults= .none∧ds=[])∨∃ T ot items n,(fdO o).defaults= .ref T∧(HF w.params).get? T=some ot∧ot.data= .seq items n∧items.toList=ds)
  (dval:CRs w.params (fun a o=>(HF w.params).get? a=some o) f.ds ds):∃ fd ps body ds,FnOk w (HF w.params) GG a f fd ps body ds:=by
 obtain ⟨ocl,odi,oda,osl⟩:=o
 obtain ⟨fd,hd,c⟩:=LK c
 have hd:oda= .func fd:=hd
 subst hd
 obtain ⟨b,hb,c⟩:=IY c
 have eb:vA fd=b:=by unfold vA;rw [hb]
 have c:=of_decide_eq_true c
 obtain ⟨us,v,q1,q2,q3⟩:=LM cc
 obtain ⟨q,t,q4,q5⟩:=LL q3
 exact ⟨fd,_,b,ds,{
    obj:=⟨_,cD w.params h,rfl⟩
    code:=⟨ca,_,us,t,c.2.2.2.2.2.2.2.2.2.2.2.1,cD w.params hc,q1,q2.trans (congrArg some (q4.trans (congrArg (Value.str · t) (eq_of_beq q5))))⟩
    body_:=hb
    pars:=EF c.2.2.2.2.2.2.2.2.2.2.2.2
    clo:=List.isEmpty_iff.mp c.1
    glo:=c.2.1
    blt:=c.2.2.1
    co:=c.2.2.2.1
    gen:=c.2.2.2.2.1
    kind:=c.2.2.2.2.2.1
    names:=c.2.2.2.2.2.2.1
    oks:=c.2.2.2.2.2.2.2.1
    nodup:=c.2.2.2.2.2.2.2.2.1
    dlen:=Nat.le_trans hl (Nat.le_of_eq ((congrArg List.length c.2.2.2.2.2.2.1).symm.trans (List.length_map _)))
    dflt:=dflt
    dval:=dval
    text:=eb ▸ text
    kinds:=c.2.2.2.2.2.2.2.2.2.1
    noFree:=fun x q=>c.2.2.2.2.2.2.2.2.2.2.1 _ (PySem.mem_of_lookup q) rfl}⟩
noncomputable abbrev FG (w:World) (a:Nat) (f:FDef):Prop:=∃ fd ps body ds,FnOk w (HF w.params) GG a f fd ps body ds
theorem fO (w:World) {a:Nat} {f:FDef} (h:(match (L9 w.params)[a]?,(L9 w.params)[a - 1]? with
   |some o,some oc=>(LO f o (.ref (a - 1)),FL (fdO o) oc,(vA (fdO o)).map (cS GG (kO (fdO o)) 60),(fdO o).defaults)
   |_,_=>(false,false,[],.none))=(true,true,f.body,.none)) (hd:f.ds=[]):FG w a f:=by
 split at h
 ·rename_i o oc h1 h3
  injection h with h2 h
  injection h with h4 h
  injection h with h5 h6
  exact dM w (ca:=a - 1) h1 h2 h3 h4 ⟨60,h5⟩ (ds:=[]) (Nat.zero_le _) (.inl ⟨h6,rfl⟩) (by rw [hd];exact rfl)
 ·injection h with h2 h
  cases h2
set_option backward.match.sparseCases true
theorem fn26 (w:World):FG w 26 f26:=fO w (by kernel_rfl) rfl
theorem fn31 (w:World):FG w 31 f31:=fO w (by kernel_rfl) rfl
theorem fn36 (w:World):FG w 36 f36:=fO w (by kernel_rfl) rfl
theorem fn43 (w:World):FG w 43 f43:=fO w (by kernel_rfl) rfl
theorem fn50 (w:World):FG w 50 f50:=fO w (by kernel_rfl) rfl
theorem fn55 (w:World):FG w 55 f55:=fO w (by kernel_rfl) rfl
theorem fn63 (w:World):FG w 63 f63:=
 dM w (o:=o63) (oc:=o62) (ca:=62) (by kernel_rfl) (by kernel_rfl) (by kernel_rfl) (by kernel_rfl) ⟨60,by kernel_rfl⟩ (ds:=[(.int 76 243)]) (by decide) (.inr ⟨56,o56,#[(.int 76 243)],0,by kernel_rfl,cD w.params (by kernel_rfl),by kernel_rfl,rfl⟩) ⟨_,_,rfl,⟨_,rfl⟩,rfl⟩
theorem fn70 (w:World):FG w 70 f70:=fO w (by kernel_rfl) rfl
theorem fn137 (w:World):FG w 137 f137:=
 dM w (o:=o137) (oc:=o136) (ca:=136) (by kernel_rfl) (by kernel_rfl) (by kernel_rfl) (by kernel_rfl) ⟨60,by kernel_rfl⟩ (ds:=[(.int 0 358),(.int (-1) 360)]) (by decide) (.inr ⟨130,o130,#[(.int 0 358),(.int (-1) 360)],0,by kernel_rfl,cD w.params (by kernel_rfl),by kernel_rfl,rfl⟩) ⟨_,_,rfl,⟨_,rfl⟩,⟨_,_,rfl,⟨_,rfl⟩,rfl⟩⟩
theorem fn144 (w:World):FG w 144 f144:=fO w (by kernel_rfl) rfl
theorem fn152 (w:World):FG w 152 f152:=
 dM w (o:=o152) (oc:=o151) (ca:=151) (by kernel_rfl) (by kernel_rfl) (by kernel_rfl) (by kernel_rfl) ⟨60,by kernel_rfl⟩ (ds:=[(.int 0 378)]) (by decide) (.inr ⟨145,o145,#[(.int 0 378)],0,by kernel_rfl,cD w.params (by kernel_rfl),by kernel_rfl,rfl⟩) ⟨_,_,rfl,⟨_,rfl⟩,rfl⟩
theorem fn159 (w:World):FG w 159 f159:=fO w (by kernel_rfl) rfl
theorem fn166 (w:World):FG w 166 f166:=fO w (by kernel_rfl) rfl
theorem fn173 (w:World):FG w 173 f173:=fO w (by kernel_rfl) rfl
theorem fn215 (w:World):FG w 215 f215:=fO w (by kernel_rfl) rfl
theorem fn220 (w:World):FG w 220 f220:=fO w (by kernel_rfl) rfl
theorem fn225 (w:World):FG w 225 f225:=fO w (by kernel_rfl) rfl
theorem fn233 (w:World):FG w 233 f233:=
 dM w (o:=o233) (oc:=o232) (ca:=232) (by kernel_rfl) (by kernel_rfl) (by kernel_rfl) (by kernel_rfl) ⟨60,by kernel_rfl⟩ (ds:=[(.int 0 475),(.int (-1) 477)]) (by decide) (.inr ⟨226,o226,#[(.int 0 475),(.int (-1) 477)],0,by kernel_rfl,cD w.params (by kernel_rfl),by kernel_rfl,rfl⟩) ⟨_,_,rfl,⟨_,rfl⟩,⟨_,_,rfl,⟨_,rfl⟩,rfl⟩⟩
theorem fn253 (w:World):FG w 253 f253:=fO w (by kernel_rfl) rfl
theorem fn274 (w:World):FG w 274 f274:=fO w (by kernel_rfl) rfl
theorem fn281 (w:World):FG w 281 f281:=fO w (by kernel_rfl) rfl
theorem fn288 (w:World):FG w 288 f288:=fO w (by kernel_rfl) rfl
theorem fn296 (w:World):FG w 296 f296:=
 dM w (o:=o296) (oc:=o295) (ca:=295) (by kernel_rfl) (by kernel_rfl) (by kernel_rfl) (by kernel_rfl) ⟨60,by kernel_rfl⟩ (ds:=[(.int 0 569),(.int (-1) 571)]) (by decide) (.inr ⟨289,o289,#[(.int 0 569),(.int (-1) 571)],0,by kernel_rfl,cD w.params (by kernel_rfl),by kernel_rfl,rfl⟩) ⟨_,_,rfl,⟨_,rfl⟩,⟨_,_,rfl,⟨_,rfl⟩,rfl⟩⟩
theorem fn302 (w:World):FG w 302 f302:=
 dM w (o:=o302) (oc:=o301) (ca:=301) (by kernel_rfl) (by kernel_rfl) (by kernel_rfl) (by kernel_rfl) ⟨60,by kernel_rfl⟩ (ds:=[(.int 0 587),(.int (-1) 589)]) (by decide) (.inr ⟨297,o297,#[(.int 0 587),(.int (-1) 589)],0,by kernel_rfl,cD w.params (by kernel_rfl),by kernel_rfl,rfl⟩) ⟨_,_,rfl,⟨_,rfl⟩,⟨_,_,rfl,⟨_,rfl⟩,rfl⟩⟩
theorem fn309 (w:World):FG w 309 f309:=fO w (by kernel_rfl) rfl
theorem fn316 (w:World):FG w 316 f316:=fO w (by kernel_rfl) rfl
theorem fn323 (w:World):FG w 323 f323:=fO w (by kernel_rfl) rfl
theorem fn328 (w:World):FG w 328 f328:=fO w (by kernel_rfl) rfl
theorem fn335 (w:World):FG w 335 f335:=fO w (by kernel_rfl) rfl
theorem fn340 (w:World):FG w 340 f340:=fO w (by kernel_rfl) rfl
theorem fn362 (w:World):FG w 362 f362:=fO w (by kernel_rfl) rfl
theorem fn388 (w:World):FG w 388 f388:=fO w (by kernel_rfl) rfl
theorem fn395 (w:World):FG w 395 f395:=fO w (by kernel_rfl) rfl
theorem fn409 (w:World):FG w 409 f409:=fO w (by kernel_rfl) rfl
theorem fn416 (w:World):FG w 416 f416:=fO w (by kernel_rfl) rfl
theorem fn438 (w:World):FG w 438 f438:=fO w (by kernel_rfl) rfl
theorem fn445 (w:World):FG w 445 f445:=fO w (by kernel_rfl) rfl
theorem fn452 (w:World):FG w 452 f452:=fO w (by kernel_rfl) rfl
theorem fn466 (w:World):FG w 466 f466:=fO w (by kernel_rfl) rfl
theorem fn486 (w:World):FG w 486 f486:=fO w (by kernel_rfl) rfl
theorem fn493 (w:World):FG w 493 f493:=fO w (by kernel_rfl) rfl
theorem fn500 (w:World):FG w 500 f500:=fO w (by kernel_rfl) rfl
theorem fn507 (w:World):FG w 507 f507:=fO w (by kernel_rfl) rfl
theorem fn528 (w:World):FG w 528 f528:=fO w (by kernel_rfl) rfl
theorem fn535 (w:World):FG w 535 f535:=fO w (by kernel_rfl) rfl
theorem fn542 (w:World):FG w 542 f542:=fO w (by kernel_rfl) rfl
theorem fn549 (w:World):FG w 549 f549:=fO w (by kernel_rfl) rfl
theorem fn556 (w:World):FG w 556 f556:=fO w (by kernel_rfl) rfl
theorem fn561 (w:World):FG w 561 f561:=fO w (by kernel_rfl) rfl
theorem fn568 (w:World):FG w 568 f568:=fO w (by kernel_rfl) rfl
theorem fn582 (w:World):FG w 582 f582:=fO w (by kernel_rfl) rfl
theorem fn613 (w:World):FG w 613 f613:=fO w (by kernel_rfl) rfl
theorem fn620 (w:World):FG w 620 f620:=fO w (by kernel_rfl) rfl
theorem fn627 (w:World):FG w 627 f627:=fO w (by kernel_rfl) rfl
theorem fn632 (w:World):FG w 632 f632:=fO w (by kernel_rfl) rfl
theorem fn637 (w:World):FG w 637 f637:=fO w (by kernel_rfl) rfl
theorem fn661 (w:World):FG w 661 f661:=fO w (by kernel_rfl) rfl
theorem fn671 (w:World):FG w 671 f671:=fO w (by kernel_rfl) rfl
theorem fn676 (w:World):FG w 676 f676:=fO w (by kernel_rfl) rfl
theorem fn681 (w:World):FG w 681 f681:=fO w (by kernel_rfl) rfl
theorem fn688 (w:World):FG w 688 f688:=fO w (by kernel_rfl) rfl
theorem fn695 (w:World):FG w 695 f695:=fO w (by kernel_rfl) rfl
theorem fn702 (w:World):FG w 702 f702:=fO w (by kernel_rfl) rfl
theorem fn709 (w:World):FG w 709 f709:=fO w (by kernel_rfl) rfl
theorem fn716 (w:World):FG w 716 f716:=fO w (by kernel_rfl) rfl
theorem fn723 (w:World):FG w 723 f723:=fO w (by kernel_rfl) rfl
theorem fn730 (w:World):FG w 730 f730:=fO w (by kernel_rfl) rfl
theorem fn738 (w:World):FG w 738 f738:=
 dM w (o:=o738) (oc:=o737) (ca:=737) (by kernel_rfl) (by kernel_rfl) (by kernel_rfl) (by kernel_rfl) ⟨60,by kernel_rfl⟩ (ds:=[(.bool true),(.int 76 1218)]) (by decide) (.inr ⟨731,o731,#[(.bool true),(.int 76 1218)],0,by kernel_rfl,cD w.params (by kernel_rfl),by kernel_rfl,rfl⟩) ⟨_,_,rfl,rfl,⟨_,_,rfl,⟨_,rfl⟩,rfl⟩⟩
theorem fn745 (w:World):FG w 745 f745:=fO w (by kernel_rfl) rfl
theorem fn752 (w:World):FG w 752 f752:=fO w (by kernel_rfl) rfl
theorem fn759 (w:World):FG w 759 f759:=fO w (by kernel_rfl) rfl
theorem fn766 (w:World):FG w 766 f766:=fO w (by kernel_rfl) rfl
theorem fn781 (w:World):FG w 781 f781:=fO w (by kernel_rfl) rfl
theorem fn798 (w:World):FG w 798 f798:=fO w (by kernel_rfl) rfl
theorem fn805 (w:World):FG w 805 f805:=fO w (by kernel_rfl) rfl
theorem fn812 (w:World):FG w 812 f812:=fO w (by kernel_rfl) rfl
theorem fn817 (w:World):FG w 817 f817:=fO w (by kernel_rfl) rfl
theorem fn824 (w:World):FG w 824 f824:=fO w (by kernel_rfl) rfl
theorem fn829 (w:World):FG w 829 f829:=fO w (by kernel_rfl) rfl
theorem fn836 (w:World):FG w 836 f836:=fO w (by kernel_rfl) rfl
theorem fn843 (w:World):FG w 843 f843:=fO w (by kernel_rfl) rfl
theorem fn850 (w:World):FG w 850 f850:=fO w (by kernel_rfl) rfl
theorem fn856 (w:World):FG w 856 f856:=fO w (by kernel_rfl) rfl
theorem fn863 (w:World):FG w 863 f863:=fO w (by kernel_rfl) rfl
theorem fn886 (w:World):FG w 886 f886:=fO w (by kernel_rfl) rfl
theorem fn893 (w:World):FG w 893 f893:=fO w (by kernel_rfl) rfl
theorem fn921 (w:World):FG w 921 f921:=fO w (by kernel_rfl) rfl
theorem fn926 (w:World):FG w 926 f926:=fO w (by kernel_rfl) rfl
theorem fn956 (w:World):FG w 956 f956:=fO w (by kernel_rfl) rfl
theorem fn963 (w:World):FG w 963 f963:=fO w (by kernel_rfl) rfl
theorem fn975 (w:World):FG w 975 f975:=fO w (by kernel_rfl) rfl
theorem fn982 (w:World):FG w 982 f982:=fO w (by kernel_rfl) rfl
theorem fn989 (w:World):FG w 989 f989:=fO w (by kernel_rfl) rfl
theorem fn994 (w:World):FG w 994 f994:=fO w (by kernel_rfl) rfl
theorem fn999 (w:World):FG w 999 f999:=fO w (by kernel_rfl) rfl
theorem fn1006 (w:World):FG w 1006 f1006:=fO w (by kernel_rfl) rfl
theorem fn1011 (w:World):FG w 1011 f1011:=fO w (by kernel_rfl) rfl
theorem fn1018 (w:World):FG w 1018 f1018:=fO w (by kernel_rfl) rfl
theorem fn1023 (w:World):FG w 1023 f1023:=fO w (by kernel_rfl) rfl
theorem fn1028 (w:World):FG w 1028 f1028:=fO w (by kernel_rfl) rfl
theorem fn1035 (w:World):FG w 1035 f1035:=fO w (by kernel_rfl) rfl
theorem fn1042 (w:World):FG w 1042 f1042:=fO w (by kernel_rfl) rfl
theorem fn1049 (w:World):FG w 1049 f1049:=fO w (by kernel_rfl) rfl
theorem fn1056 (w:World):FG w 1056 f1056:=fO w (by kernel_rfl) rfl
theorem fn1063 (w:World):FG w 1063 f1063:=fO w (by kernel_rfl) rfl
theorem fn1070 (w:World):FG w 1070 f1070:=fO w (by kernel_rfl) rfl
theorem fn1077 (w:World):FG w 1077 f1077:=fO w (by kernel_rfl) rfl
theorem fn1082 (w:World):FG w 1082 f1082:=fO w (by kernel_rfl) rfl
theorem fn1089 (w:World):FG w 1089 f1089:=fO w (by kernel_rfl) rfl
theorem fn1108 (w:World):FG w 1108 f1108:=fO w (by kernel_rfl) rfl
theorem fn1115 (w:World):FG w 1115 f1115:=fO w (by kernel_rfl) rfl
theorem fn1122 (w:World):FG w 1122 f1122:=fO w (by kernel_rfl) rfl
theorem fn1127 (w:World):FG w 1127 f1127:=fO w (by kernel_rfl) rfl
theorem fn1132 (w:World):FG w 1132 f1132:=fO w (by kernel_rfl) rfl
theorem fn1137 (w:World):FG w 1137 f1137:=fO w (by kernel_rfl) rfl
theorem all_cons {α:Type} {Q:α→Prop} {a:α} {l:List α} (h:Q a) (t:∀ p∈l,Q p):∀ p∈a::l,Q p:=List.forall_mem_cons.mpr ⟨h,t⟩
theorem EG {α:Type} {Q:α→Prop}:∀ p∈([]:List α),Q p:=fun _ h=>nomatch h
theorem A5 {α:Type} {Q:Nat→α→Prop}:∀ {l:List (Nat × α)},(∀ p∈l,Q p.1 p.2)→∀ {a f},lk l a=some f→Q a f
 | [],_,a,f,h=>by simp [lk] at h
 |p::l,H,a,f,h=>by
  simp only [lk] at h
  cases q:Nat.beq p.1 a with
  |true=>
   rw [q] at h
   cases h
   rw [← Nat.eq_of_beq_eq_true q]
   exact H p List.mem_cons_self
  |false=>
   rw [q] at h
   exact A5 (fun p hp=>H p (List.mem_cons_of_mem _ hp)) h
theorem LQ (w:World):∀ p∈fnT,∃ fd ps body ds,FnOk w (HF w.params) GG p.1 p.2 fd ps body ds:=
 all_cons (fn26 w) <| all_cons (fn31 w) <| all_cons (fn36 w) <| all_cons (fn43 w) <| all_cons (fn50 w) <| all_cons (fn55 w) <| all_cons (fn63 w) <| all_cons (fn70 w) <| all_cons (fn137 w) <| all_cons (fn144 w) <| all_cons (fn152 w) <| all_cons (fn159 w) <| all_cons (fn166 w) <| all_cons (fn173 w) <| all_cons (fn215 w) <| all_cons (fn220 w) <| all_cons (fn225 w) <| all_cons (fn233 w) <| all_cons (fn253 w) <| all_cons (fn274 w) <| all_cons (fn281 w) <| all_cons (fn288 w) <| all_cons (fn296 w) <| all_cons (fn302 w) <| all_cons (fn309 w) <| all_cons (fn316 w) <| all_cons (fn323 w) <| all_cons (fn328 w) <| all_cons (fn335 w) <| all_cons (fn340 w) <| all_cons (fn362 w) <| all_cons (fn388 w) <| all_cons (fn395 w) <| all_cons (fn409 w) <| all_cons (fn416 w) <| all_cons (fn438 w) <| all_cons (fn445 w) <| all_cons (fn452 w) <| all_cons (fn466 w) <| all_cons (fn486 w) <| all_cons (fn493 w) <| all_cons (fn500 w) <| all_cons (fn507 w) <| all_cons (fn528 w) <| all_cons (fn535 w) <| all_cons (fn542 w) <| all_cons (fn549 w) <| all_cons (fn556 w) <| all_cons (fn561 w) <| all_cons (fn568 w) <| all_cons (fn582 w) <| all_cons (fn613 w) <| all_cons (fn620 w) <| all_cons (fn627 w) <| all_cons (fn632 w) <| all_cons (fn637 w) <| all_cons (fn661 w) <| all_cons (fn671 w) <| all_cons (fn676 w) <| all_cons (fn681 w) <| all_cons (fn688 w) <| all_cons (fn695 w) <| all_cons (fn702 w) <| all_cons (fn709 w) <| all_cons (fn716 w) <| all_cons (fn723 w) <| all_cons (fn730 w) <| all_cons (fn738 w) <| all_cons (fn745 w) <| all_cons (fn752 w) <| all_cons (fn759 w) <| all_cons (fn766 w) <| all_cons (fn781 w) <| all_cons (fn798 w) <| all_cons (fn805 w) <| all_cons (fn812 w) <| all_cons (fn817 w) <| all_cons (fn824 w) <| all_cons (fn829 w) <| all_cons (fn836 w) <| all_cons (fn843 w) <| all_cons (fn850 w) <| all_cons (fn856 w) <| all_cons (fn863 w) <| all_cons (fn886 w) <| all_cons (fn893 w) <| all_cons (fn921 w) <| all_cons (fn926 w) <| all_cons (fn956 w) <| all_cons (fn963 w) <| all_cons (fn975 w) <| all_cons (fn982 w) <| all_cons (fn989 w) <| all_cons (fn994 w) <| all_cons (fn999 w) <| all_cons (fn1006 w) <| all_cons (fn1011 w) <| all_cons (fn1018 w) <| all_cons (fn1023 w) <| all_cons (fn1028 w) <| all_cons (fn1035 w) <| all_cons (fn1042 w) <| all_cons (fn1049 w) <| all_cons (fn1056 w) <| all_cons (fn1063 w) <| all_cons (fn1070 w) <| all_cons (fn1077 w) <| all_cons (fn1082 w) <| all_cons (fn1089 w) <| all_cons (fn1108 w) <| all_cons (fn1115 w) <| all_cons (fn1122 w) <| all_cons (fn1127 w) <| all_cons (fn1132 w) <| all_cons (fn1137 w) <| EG
theorem init263 (w:World):FG w 248 ⟨eJ::[zK,zAB],[],gZ [zK,zAB]⟩:=fO w (by kernel_rfl) rfl
theorem init510 (w:World):FG w 481 ⟨eJ::[zAS,z5,zAT],[],gZ [zAS,z5,zAT]⟩:=fO w (by kernel_rfl) rfl
theorem init896 (w:World):FG w 879 ⟨eJ::[zM,zC,zF],[.tup []],gZ [zM,zC,zF]⟩:=
 dM w (o:=o879) (oc:=o878) (ca:=878) (by kernel_rfl) (by kernel_rfl) (by kernel_rfl) (by kernel_rfl) ⟨60,by kernel_rfl⟩ (ds:=[(.ref 871)]) (by decide) (.inr ⟨872,o872,#[(.ref 871)],0,by kernel_rfl,cD w.params (by kernel_rfl),by kernel_rfl,rfl⟩) ⟨_,_,rfl,⟨871,o871,#[],0,rfl,cD w.params (by kernel_rfl),by kernel_rfl,by kernel_rfl,rfl⟩,rfl⟩
theorem init929 (w:World):FG w 916 ⟨eJ::[z5,zU,zF],[.tup []],gZ [z5,zU,zF]⟩:=
 dM w (o:=o916) (oc:=o915) (ca:=915) (by kernel_rfl) (by kernel_rfl) (by kernel_rfl) (by kernel_rfl) ⟨60,by kernel_rfl⟩ (ds:=[(.ref 908)]) (by decide) (.inr ⟨909,o909,#[(.ref 908)],0,by kernel_rfl,cD w.params (by kernel_rfl),by kernel_rfl,rfl⟩) ⟨_,_,rfl,⟨908,o908,#[],0,rfl,cD w.params (by kernel_rfl),by kernel_rfl,by kernel_rfl,rfl⟩,rfl⟩
theorem init966 (w:World):FG w 949 ⟨eJ::[zL,zF],[.tup []],gZ [zL,zF]⟩:=
 dM w (o:=o949) (oc:=o948) (ca:=948) (by kernel_rfl) (by kernel_rfl) (by kernel_rfl) (by kernel_rfl) ⟨60,by kernel_rfl⟩ (ds:=[(.ref 941)]) (by decide) (.inr ⟨942,o942,#[(.ref 941)],0,by kernel_rfl,cD w.params (by kernel_rfl),by kernel_rfl,rfl⟩) ⟨_,_,rfl,⟨941,o941,#[],0,rfl,cD w.params (by kernel_rfl),by kernel_rfl,by kernel_rfl,rfl⟩,rfl⟩
noncomputable def KK (P:Params):Frag:=[(204,o204),(203,o203 P),(137,o137),(144,o144),(152,o152),(159,o159),(166,o166),(173,o173),(180,o180),(187,o187),(194,o194),(201,o201),(202,o202),(205,o205),(206,o206),(263,o263),(262,o262 P),(248,o248),(253,o253),(260,o260),(261,o261),(264,o264),(265,o265),(510,o510),(509,o509 P),(481,o481),(486,o486),(493,o493),(500,o500),(507,o507),(508,o508),(511,o511),(512,o512),(789,o789),(788,o788 P),(781,o781),(786,o786),(787,o787),(790,o790),(791,o791),(896,o896),(895,o895 P),(879,o879),(886,o886),(893,o893),(894,o894),(897,o897),(898,o898),(929,o929),(928,o928 P),(916,o916),(921,o921),(926,o926),(927,o927),(930,o930),(931,o931),(966,o966),(965,o965 P),(949,o949),(956,o956),(963,o963),(964,o964),(967,o967),(968,o968)]
theorem o5 {P:Params}:∀ {K:Frag},K.map (fun p=>(L9 P)[p.1]?)=K.map (fun p=>some p.2)→K.In (HF P)
 | [],_=>fun a o e=>by cases e
 |p::K,h=>fun a o e=>by
  rw [List.map_cons,List.map_cons] at h
  obtain ⟨h1,h2⟩:=List.cons.inj h
  rw [List.lookup_cons] at e
  split at e
  ·rename_i q
   cases e
   rw [eq_of_beq q]
   exact cD P h1
  ·exact o5 h2 a o e
theorem fN (P:Params):(KK P).In (HF P):=o5 (by kernel_rfl)
theorem IZ (P:Params):(clT.all fun p=>p.2.fl.all fun n=>l3 (KK P) p.1 (dec n) && Nat.beq (enc (dec n)) n)=true:=by kernel_rfl
theorem I0 (P:Params):(meT.all fun p=>p.2.all fun q=>rH (KK P) p.1 (dec q.1) q.2 && Nat.beq (enc (dec q.1)) q.1)=true:=by kernel_rfl
theorem I1 (P:Params):(clT.all fun p=>p.2.fl.all fun n=>l5 (KK P) p.1 (dec n))=true:=by kernel_rfl
theorem EH (P:Params):([896,929,966].all fun c=>[929,966].all fun d=>Nat.beq c d || oZ (KK P) c d)=true:=by kernel_rfl
section
variable {prog:Program} {w:World}
theorem eD {α:Type}:∀ {l:List (Nat × α)} {a:Nat} {f:α},lk l a=some f→(a,f)∈l
 | [],a,f,h=>by simp [lk] at h
 |p::l,a,f,h=>by
  simp only [lk] at h
  cases q:Nat.beq p.1 a with
  |true=>
   rw [q] at h
   cases h
   rw [← Nat.eq_of_beq_eq_true q]
   exact List.mem_cons_self
  |false=>
   rw [q] at h
   exact List.mem_cons_of_mem _ (eD h)
theorem A6 {T:Tb} {l:List (Nat × CDef)} (hT:T.cl=lk l) {c n:Nat} (h:pB T c n=true):∃ d,(c,d)∈l∧n∈d.fl:=by
 unfold pB at h
 rw [hT] at h
 cases q:lk l c with
 |none=>rw [q] at h;cases h
 |some d=>
  rw [q] at h
  exact ⟨d,eD q,mem_iff.mp h⟩
theorem LR {c n:Nat} (h:pB tb c n=true):l3 (KK w.params) c (dec n)=true∧enc (dec n)=n:=by
 obtain ⟨d,hd,hn⟩:=A6 (T:=tb) (l:=clT) rfl h
 have:=List.all_eq_true.mp (List.all_eq_true.mp (IZ w.params) _ hd) _ hn
 rw [Bool.and_eq_true] at this
 exact ⟨this.1,Nat.eq_of_beq_eq_true this.2⟩
theorem LS {c m a:Nat} (h:tb.me c m=some a):rH (KK w.params) c (dec m) a=true∧enc (dec m)=m:=by
 obtain ⟨l,hl,hm⟩:=Option.bind_eq_some_iff.mp (show (lk meT c).bind (fun l=>lk l m)=some a from h)
 have:=List.all_eq_true.mp (List.all_eq_true.mp (I0 w.params) _ (eD hl)) _ (eD hm)
 rw [Bool.and_eq_true] at this
 exact ⟨this.1,Nat.eq_of_beq_eq_true this.2⟩
theorem A7 {c:Nat} {d:CDef} (h:(c,d)∈clT) {n:Nat} (hn:n∈d.fl):l5 (KK w.params) c (dec n)=true:=
 List.all_eq_true.mp (List.all_eq_true.mp (I1 w.params) _ h) _ hn
theorem LT {c n:Nat} (h:jT tb c n=true):l5 (KK w.params) c (dec n)=true:=by
 unfold jT at h
 cases q:tb.cl c with
 |none=>rw [q] at h;cases h
 |some d=>
  rw [q] at h
  cases d with
  |rcd _ _=>cases h
  |mtb i fl=>exact A7 (d:=.mtb i fl) (eD q) (mem_iff.mp h)
theorem I2 {a:Nat} {qs:List Nat} {dv:List C} (ha:(a,CDef.rcd qs dv)∈clT) {c n:Nat} (h:jT (tbR a qs) c n=true):l5 (KK w.params) c (dec n)=true:=by
 unfold jT tbR at h
 dsimp only at h
 by_cases q:c=a
 ·subst q
  rw [if_pos rfl] at h
  exact A7 ha (mem_iff.mp h)
 ·rw [if_neg q] at h;cases h
theorem I3 {c d:Nat} (h:isC c d=true) (ne:c≠d):oZ (KK w.params) c d=true:=by
 unfold isC at h
 simp only [Bool.and_eq_true,Bool.or_eq_true] at h
 have hc:c∈[896,929,966]:=by
  rcases h.1 with (h |h) |h <;> (have:=Nat.eq_of_beq_eq_true h;subst this;simp)
 have hd:d∈[929,966]:=by
  rcases h.2 with h |h <;> (have:=Nat.eq_of_beq_eq_true h;subst this;simp)
 have:=List.all_eq_true.mp (List.all_eq_true.mp (EH w.params) _ hc) _ hd
 rw [Bool.or_eq_true] at this
 rcases this with h |h
 ·exact absurd (Nat.eq_of_beq_eq_true h) ne
 ·exact h
theorem A8 (P:Params):g8 (KK P) 204 137=true∧g8 (KK P) 263 248=true∧g8 (KK P) 510 481=true∧g8 (KK P) 789 781=true∧g8 (KK P) 896 879=true∧g8 (KK P) 929 916=true∧g8 (KK P) 966 949=true:=
 ⟨by kernel_rfl,by kernel_rfl,by kernel_rfl,by kernel_rfl,by kernel_rfl,by kernel_rfl,by kernel_rfl⟩
theorem A9 (P:Params):(HF P).NoLimit:=by
 refine ⟨fun x=>nsFind #[de P "type.__subclasses__.Exception.0" 302 (.int 95 0),de P "type.__subclasses__.Exception.n" 303 (.int 1 0)] x,⟨K7 P,_,_,cD P (by kernel_rfl),rfl,?_,fun _=>rfl⟩,by kernel_rfl⟩
 intro e he
 simp only [List.mem_toArray,List.mem_cons,List.not_mem_nil,or_false] at he
 rcases he with rfl |rfl
 ·exact ⟨_,_,rfl⟩
 ·exact ⟨_,_,rfl⟩
theorem EI {a:Nat} {fd:FuncData} {o:Obj} {h:Heap} (g:h.get? a=some o) (hd:o.data= .func fd):Looks (model prog w) h (keeperOf (.ref a)) .frame:=by
 refine (Looks.ld (part:=none) g).andThen ?_
 rw [hd]
 exact .now
theorem EJ {a:Nat} {h:Heap} (Y:Makes (model prog w) h a):Looks (model prog w) h (keeperOf (.ref a)) .machine:=by
 obtain ⟨oc,od,cd,sl,hC,_⟩:=Y.obj
 refine (Looks.ld (part:=none) hC).andThen ?_
 exact Y.call.andThen .now
end
section
variable {prog:Program} {w:World}
theorem I5 (P:Params) {a:Nat} {d:CDef} (h:(a,d)∈clT):makesIn (KK P) a=true:=by
 obtain ⟨h1,h2,h3,h4,h5,h6,h7⟩:=A8 P
 unfold g8 at h1 h2 h3 h4 h5 h6 h7
 rw [Bool.and_eq_true] at h1 h2 h3 h4 h5 h6 h7
 unfold clT at h
 simp only [List.mem_cons,List.not_mem_nil,or_false,Prod.mk.injEq] at h
 rcases h with ⟨rfl,_⟩ | ⟨rfl,_⟩ | ⟨rfl,_⟩ | ⟨rfl,_⟩ | ⟨rfl,_⟩ | ⟨rfl,_⟩ | ⟨rfl,_⟩
 ·exact h1.1
 ·exact h2.1
 ·exact h3.1
 ·exact h4.1
 ·exact h5.1
 ·exact h6.1
 ·exact h7.1
theorem FM (w:World) {a:Nat} {f:FDef} (h:tb.fn a=some f):∃ fd ps body ds,FnOk w (HF w.params) GG a f fd ps body ds:=
 A5 (Q:=fun a f=>∃ fd ps body ds,FnOk w (HF w.params) GG a f fd ps body ds) (LQ w) h
theorem LU (prog:Program) (w:World):TbOk prog w (HF w.params) GG tb where
 lim:=A9 w.params
 fn:=fun h=>FM w h
 rcd:=fun {a qs dv} h=>by
  have hm:(a,CDef.rcd qs dv)∈clT:=eD h
  have M:Op3 prog w (HF w.params) (tbR a qs):=AY (fN w.params) fun h=>I2 hm h
  obtain ⟨h1,h2,h3,h4,h5,h6,h7⟩:=A8 w.params
  have hm':=hm
  unfold clT at hm
  simp only [List.mem_cons,List.not_mem_nil,or_false,Prod.mk.injEq,CDef.rcd.injEq,reduceCtorEq,and_false,false_or] at hm
  rcases hm with ⟨rfl,rfl,rfl⟩ | ⟨rfl,rfl,rfl⟩ | ⟨rfl,rfl,rfl⟩ | ⟨rfl,rfl,rfl⟩ | ⟨rfl,rfl,rfl⟩
  ·obtain ⟨fd,ps,body,ds,Fo⟩:=init263 w
   exact ⟨_,_,fd,ps,body,ds,iA (fN w.params) h2,Fo,rfl,rfl,rfl,M,by decide⟩
  ·obtain ⟨fd,ps,body,ds,Fo⟩:=init510 w
   exact ⟨_,_,fd,ps,body,ds,iA (fN w.params) h3,Fo,rfl,rfl,rfl,M,by decide⟩
  ·obtain ⟨fd,ps,body,ds,Fo⟩:=init896 w
   exact ⟨_,_,fd,ps,body,ds,iA (fN w.params) h5,Fo,rfl,rfl,rfl,M,by decide⟩
  ·obtain ⟨fd,ps,body,ds,Fo⟩:=init929 w
   exact ⟨_,_,fd,ps,body,ds,iA (fN w.params) h6,Fo,rfl,rfl,rfl,M,by decide⟩
  ·obtain ⟨fd,ps,body,ds,Fo⟩:=init966 w
   exact ⟨_,_,fd,ps,body,ds,iA (fN w.params) h7,Fo,rfl,rfl,rfl,M,by decide⟩
 mtb:=fun {a i fl} h=>by
  have hm:(a,CDef.mtb i fl)∈clT:=eD h
  obtain ⟨h1,h2,h3,h4,h5,h6,h7⟩:=A8 w.params
  unfold clT at hm
  simp only [List.mem_cons,List.not_mem_nil,or_false,Prod.mk.injEq,CDef.mtb.injEq,reduceCtorEq,and_false,false_or] at hm
  rcases hm with ⟨rfl,rfl,rfl⟩ | ⟨rfl,rfl,rfl⟩
  ·exact iA (fN w.params) h1
  ·exact iA (fN w.params) h4
 keep:=fun {a} h hp kp=>by
  rcases h with ⟨f,hf⟩ | ⟨c,hc⟩
  ·obtain ⟨fd,ps,body,ds,Fo⟩:=FM w hf
   obtain ⟨o,g,hd⟩:=Fo.obj
   exact ⟨.frame,.inl rfl,EI (kp _ _ g) hd⟩
  ·exact ⟨.machine,.inr (.inl rfl),EJ (makes_of ((fN w.params).keeps kp) (I5 w.params (eD hc)))⟩
end
set_option backward.match.sparseCases false
noncomputable def vI (i:Int):Value→Bool
 | .int j _=>decide (i=j)
 |_=>false
noncomputable def vS (s:List Nat):Value→Bool
 | .str x _=>decide (x.cps.toList=s)
 |_=>false
noncomputable def vB (l:List Nat):Value→Bool
 | .bytes b _=>decide (b.toList.map UInt8.toNat=l)
 |_=>false
noncomputable def vR (k:Addr→Bool):Value→Bool
 | .ref a=>k a
 |_=>false
noncomputable def dQ (k:List Value→Bool):Data→Bool
 | .seq us _=>k us.toList
 |_=>false
theorem LV {i:Int} {v:Value} (h:vI i v=true):∃ t,v= .int i t:=by
 cases v <;> first |exact Bool.noConfusion h |exact ⟨_,congrArg (Value.int · _) (of_decide_eq_true h).symm⟩
theorem LW {s:List Nat} {v:Value} (h:vS s v=true):StrAt v s:=by
 cases v <;> first |exact Bool.noConfusion h |exact ⟨_,_,rfl,of_decide_eq_true h⟩
theorem LX {s:List Nat} {v:Value} (h:vB s v=true):BytAt v s:=by
 cases v <;> first |exact Bool.noConfusion h |exact ⟨_,_,rfl,of_decide_eq_true h⟩
theorem LY {k:Addr→Bool} {v:Value} (h:vR k v=true):∃ a,v= .ref a∧k a=true:=by
 cases v <;> first |exact Bool.noConfusion h |exact ⟨_,rfl,h⟩
theorem LZ {k:List Value→Bool} {d:Data} (h:dQ k d=true):∃ us n,d= .seq us n∧k us.toList=true:=by
 cases d <;> first |exact Bool.noConfusion h |exact ⟨_,_,rfl,h⟩
noncomputable def all2 (f:C→Value→Bool):List C→List Value→Bool
 | [],us=>us.isEmpty
 |c::l,us=>match us with
  | []=>false
  |u::us=>f c u && all2 f l us
noncomputable def lkO (K:Frag) (a:Addr) (k:Obj→Bool):Bool:=match K.lookup a with
 |some o=>k o
 |none=>false
noncomputable def I6 (K:Frag):Nat→C→Value→Bool
 |0,_,_=>false
 |n+1,c,v=>match c with
  | .none=>v == .none
  | .bool b=>v == .bool b
  | .int i=>vI i v
  | .str s=>vS s v
  | .byt l=>vB l v
  | .tup l=>vR (fun a=>lkO K a fun o=>decide ((o.cls,o.dict)=(.type "tuple",none)) && dQ (all2 (I6 K n) l) o.data) v
  | .obj a=>v == .ref a
  | .typ t=>v == .type t.nm
  | .blt t=>v == .builtin t.nm
  |_=>false
theorem vD {f:C→Value→Bool} {W:Params} {P:Fz} (i:∀ c v,f c v=true→CR W P c v):∀ l us,all2 f l us=true→CRs W P l us
 | [],us,e=>List.isEmpty_iff.mp e
 |c::l,[],e=>Bool.noConfusion e
 |c::l,u::us,e=>⟨_,_,rfl,i _ _ (Bool.and_eq_true_iff.mp e).1,vD i l us (Bool.and_eq_true_iff.mp e).2⟩
theorem I7 {K:Frag} {a:Addr} {k:Obj→Bool} (h:lkO K a k=true):∃ o,K.lookup a=some o∧k o=true:=by
 unfold lkO at h
 rcases e:K.lookup a with _ |o <;> rw [e] at h
 ·exact Bool.noConfusion h
 ·exact ⟨o,rfl,h⟩
theorem BA {K:Frag} {h:Heap} {W:Params} (X:K.In h):∀ n c v,I6 K n c v=true→CR W (fun a o=>h.get? a=some o) c v
 |0,c,v,e=>Bool.noConfusion e
 |n+1,c,v,e=>by
  rcases c with _ |_ |i |s |s |l |_ |_ |_ |_ |_ |_ |_ |_
  case tup=>
   obtain ⟨a,e1,e⟩:=LY (v:=v) e
   obtain ⟨o,e2,e⟩:=I7 e
   have e:=Bool.and_eq_true_iff.mp e
   obtain ⟨us,k,e3,e4⟩:=LZ e.2
   exact ⟨a,o,us,k,e1,X _ _ e2,of_decide_eq_true e.1,e3,vD (BA X n) _ _ e4⟩
  case int=>exact LV (v:=v) e
  case str=>exact LW (v:=v) e
  case byt=>exact LX (v:=v) e
  all_goals first |exact eq_of_beq (a:=v) e |exact Bool.noConfusion e
noncomputable def I8 (K:Frag) (x:Str) (k:Value→Bool):Bool:=match nsIn K 3 x with
 |none=>false
 |some r=>match r with
  |some v=>k v
  |none=>match nsIn K 0 x with
   |none=>false
   |some r=>match r with
    |some v=>k v
    |none=>false
theorem EK {prog:Program} {w:World} {K:Frag} {h₀:Heap} (X:K.In h₀) {x:Str} {k:Value→Bool} (e:I8 K x k=true):∃ v,k v=true∧∀ {env:Env} {A:Around} {s:Shared} {Q:Value→Shared→Prop} {E:Value→Shared→Prop},env.globals=3→env.builtins=0→Kept h₀ s.heap→Q v s→
  wpAny (model prog w) A (loadGlobal env x) Q E s:=by
 unfold I8 at e
 rcases h1:nsIn K 3 x with _ |_ |v <;> rw [h1] at e
 ·exact Bool.noConfusion e
 ·rcases h2:nsIn K 0 x with _ |_ |v <;> rw [h2] at e
  ·exact Bool.noConfusion e
  ·exact Bool.noConfusion e
  ·refine ⟨v,e,fun {env _ _ _ _} hg hb kp q=> ?_⟩
   unfold loadGlobal
   rw [hg,hb]
   exact wpAny_bind ((looks_nsIn (X.keeps kp) h1).here (wpAny_bind ((looks_nsIn (X.keeps kp) h2).here (wpAny_pure q))))
 ·refine ⟨v,e,fun {env _ _ _ _} hg hb kp q=> ?_⟩
  unfold loadGlobal
  rw [hg]
  exact wpAny_bind ((looks_nsIn (X.keeps kp) h1).here (wpAny_pure q))
noncomputable def KG (P:Params):Frag:=[(0,boot_o_0 P),(3,EC P),(234,o234),(341,o341),(431,o431),(467,o467),(767,o767),(851,o851),(1100,o1100),(1092,o1092),(1091,o1091),(1090,o1090),(1094,o1094),(1093,o1093),(1097,o1097),(1096,o1096),(1095,o1095),(1099,o1099),(1098,o1098),(1101,o1101)]
theorem FN (P:Params):(KG P).In (HF P):=o5 (by kernel_rfl)
noncomputable def I9 (K:Frag) (n:Nat) (c:C):Bool:=I8 K (dec n) (I6 K 20 c)
set_option backward.match.sparseCases true
theorem L0 (P:Params):(gT.all fun p=>match lk gT p.1 with |some c=>I9 (KG P) p.1 c |none=>true)=true:=by kernel_rfl
theorem EL (prog:Program) (w:World):Base prog w (HF w.params) GG where
 lim:=A9 w.params
 glob:=by
  intro x c ok h env A s Q E hg hb kp q
  have:=List.all_eq_true.mp (L0 w.params) _ (eD h)
  have h':lk gT (enc x)=some c:=h
  rw [h'] at this
  have this:I9 (KG w.params) (enc x) c=true:=this
  unfold I9 at this
  rw [(bP ok).1] at this
  obtain ⟨v,hv,hk⟩:=EK (FN w.params) this
  exact hk hg hb kp (q v (BA (FN w.params) 20 _ _ hv))
theorem BB (prog:Program) (w:World):∀ n,Snd prog w (HF w.params) GG (run tb n):=
 sound (EL prog w) (IO (fN w.params) LR LS) op2 (AY (fN w.params) LT) (op4 _ _ _) (op5 _ _) (op6 (IN (fN w.params) fun _ _ h ne=>I3 h ne) (cD w.params (a:=1) (o:=boot_o_1 w.params) (by kernel_rfl))) (LU prog w)
section
theorem BC {P:Params} {h:Heap} {v:Value} {i:Int} (x:Well P h v (.int i)):∃ t,v= .int i t:=by cases x;exact ⟨_,rfl⟩
theorem v9 {P:Params} {h:Heap} {v:Value} {xs:List WData} (x:Well P h v (.list xs)):∃ a vs,v= .ref a∧h.get? a=some {cls:=.type "list",data:=.seq vs}∧WellAll P h vs.toList xs:=by
 cases x with |list g l=>exact ⟨_,_,rfl,g,l⟩
theorem nD {P:Params} {h:Heap}:∀ {xs:List WData} {vs:List Value},WellAll P h vs xs→WShape.hasItems [] xs .int=true→∃ ns:List Int,xs=ns.map WData.int∧∀ W Pz,CRs W Pz (ns.map C.int) vs
 | [],_,w,_=>by
  cases w
  exact ⟨[],rfl,fun _ _=>rfl⟩
 |x::xs,_,w,hs=>by
  cases w with
  |cons a b=>
   have hs:=Bool.and_eq_true_iff.mp hs
   obtain ⟨i,rfl⟩:=hasW_int hs.1
   obtain ⟨t,rfl⟩:=BC a
   obtain ⟨ns,rfl,hc⟩:=nD b hs.2
   exact ⟨i::ns,rfl,fun W Pz=>⟨_,_,rfl,⟨t,rfl⟩,hc W Pz⟩⟩
theorem BD {P:Params} {h:Heap} {vals:List Value} {args:List WData} (wl:WellAll P h vals args) (hs:WShape.hasAll [] args [.list .int]=true):∃ ns:List Int,∃ a vs,args=[.list (ns.map WData.int)]∧vals=[.ref a]∧h.get? a=some {cls:=.type "list",data:=.seq vs}∧∀ W Pz,CRs W Pz (ns.map C.int) vs.toList:=by
 obtain ⟨d,r,rfl,h1,h2⟩:=hasAllW_cons hs
 obtain rfl:=hasAllW_nil h2
 obtain ⟨xs,rfl,h3⟩:=hasW_list h1
 cases wl with
 |cons w1 w2=>
  cases w2
  obtain ⟨a,vs,rfl,g,wl⟩:=v9 w1
  obtain ⟨ns,rfl,hc⟩:=nD wl h3
  exact ⟨ns,a,vs,rfl,rfl,g,hc⟩
theorem EM {ns:List Int} (h:rl.row.pre.holds [] {args:=[.list (ns.map WData.int)]}=true):ns.length≤63:=by
 have h1:=condW_of (holds_andW (a:=.not (.lt (.lit (.int 63)) (.len (.arg 0)))) (b:=.lit (.bool true)) h).1 (X:= !decide ((63:Int) < ((ns.map WData.int).length:Nat))) rfl
 rw [List.length_map] at h1
 refine Nat.le_of_not_lt fun q=> ?_
 rw [decide_eq_true (show (63:Int) < (ns.length:Nat) from Int.ofNat_lt.mpr q)] at h1
 exact Bool.noConfusion h1
theorem rl_of (plain:∀ ns:List Int,ns.length≤63→∃ n,(run tb n).call 60 (.c (.obj 1137)) [.c (.lst (ns.map .int))] [] fun v _=>v= .c (.bool true)):rl.Holds:=by
 refine head1 ?_
 intro w s₀ s₁ mg mb G Y a o pm cd doc dV kV g hd hcd hdf hmg hgens args vals as hpre hlay hreads hwell hlow
 obtain ⟨hs,hp⟩:=pre_splitW hpre
 obtain ⟨ns,b,vs,rfl,rfl,gb,hc⟩:=BD hwell hs
 obtain ⟨n,hrun⟩:=plain ns (EM hp)
 have ha:a=1137:=by
  obtain ⟨o3,es,ep,g3,d3,_,f3⟩:=G.T.g
  have g3':=Y 3 (EC w.params) (cD w.params (by kernel_rfl))
  have e3:s₁.heap.get? mainGlobals=some (EC w.params):=g3'
  rw [e3] at g3
  cases g3
  have hf:=f3 dL.name
  rw [hmg] at hf
  have hes:es=(u7 w.params).toArray:=by
   have:Data.dict (u7 w.params).toArray 181= .dict es ep:=d3
   injection this with e1 _
   exact e1.symm
  rw [hes] at hf
  have hk:nsFind (u7 w.params).toArray dL.name=some (.ref 1137):=by kernel_rfl
  rw [hk] at hf
  cases hf
  rfl
 subst ha
 have ok:Ok w.params (HF w.params) ⟨At s₁.heap,[],s₁⟩ []:=⟨fun _ _ e=>e,Y,fun n o e=>nn e,rfl,fun m n p q a e=>nn e,fun a ⟨n,p,e,i⟩=>nn e,Nat.lt_of_le_of_lt (by decide) (Heap.lt_size (Y 1137 (o1137) (cD w.params (by kernel_rfl))))⟩
 have ta:TRs w.params ⟨At s₁.heap,[],s₁⟩ [.c (.lst (ns.map C.int))] [.ref b]:=.cons ⟨b,_,vs,0,rfl,gb,rfl,rfl,hc _ _⟩ .nil
 refine (BB rl.row.toRowW.prog w n).call hrun ⟨rfl,by decide,by decide⟩ rfl ta ok fun v H' u σ' hq g t=> ?_
 subst hq
 have e:u= .bool true:=t
 subst e
 rw [g.le.s]
 refine GoodW.toG ⟨.inl ⟨.bool true,.bool true,[],rfl,fun _=>rfl,.bool true,?_,fun _=>⟨List.nodup_nil,fun a ha=>by simp at ha⟩⟩,fun b o e=>g.le.keep b o e (fun ⟨n,p,e,i⟩=>nn e) id,rfl,hgens⟩
 first |rfl |kernel_rfl
end
end Mine
end
theorem PySem.Challenge.cw_no0399_01_holds : PySem.Challenge.rw_no0399_01.Holds :=
  Mine.rl_of fun _ h => Exists.elim (Mine.Pl.plain_law h) fun n k => ⟨n, k n (Nat.le_refl _) _ rfl⟩
