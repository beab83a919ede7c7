import PyProof.Rows.All
import Wide.All
import OpenK.AllK
import Lean
import PySem.Challenge.RW_xw0093_01
set_option Elab.async false
set_option maxRecDepth 100000
set_option maxHeartbeats 4000000
set_option linter.unusedVariables false
set_option tactic.hygienic false
set_option genSizeOf false
set_option genInjectivity false
namespace Mine
open PySem PySem.W PyProof.Rows
noncomputable section
inductive IE where
 | lit (i:Int)
 | var (t:Nat) (o:Int)
 | op (k:Nat) (a b:IE)
inductive SE where
 | lit (s:Str)
 | var (t:Nat)
 | cat (a b:SE)
 | ofInt (e:IE)
inductive D where
 | none
 | bool (b:Bool)
 | int (e:IE)
 | str (s:SE)
 | tup (l:List D)
 | obj (i:Nat)
 | tab (j:Nat) (l:List (Nat×D))
 | opq (t:Nat)
noncomputable abbrev Loc:=List (Nat×D)
inductive Jo where
 | inst (c d:Nat)
 | ns (c:Nat) (l:Loc)
 | list (t:Nat) (l:List D)
 | dict (k:Nat) (l:List (D×D))
 | sdict (l:List (D×D))
 | idict (l:List (D×D))
 | cdict (l:List (Nat×D×D))
noncomputable abbrev I (n:Nat):D:=.int (.lit (Int.ofNat n))
noncomputable abbrev JP:=List (List Nat)
noncomputable def lEq (x:List Nat):List Nat→Bool :=
 @List.rec Nat (fun _=>List Nat→Bool) (fun y=>@List.rec Nat (fun _=>Bool) true (fun _ _ _=>false) y)
  (fun a _ ih y=>@List.rec Nat (fun _=>Bool) false (fun b t _=>@Bool.rec (fun _=>Bool) false (ih t) (Nat.beq a b)) y) x
noncomputable def lkp {α:Type}(l:List (Nat×α))(j:Nat):Option α :=
 @List.rec (Nat×α) (fun _=>Option α) none (fun p _ ih=>@Bool.rec (fun _=>Option α) ih (some p.2) (Nat.beq p.1 j)) l
noncomputable def Js {α:Type}(l:List α):Nat→Option α :=
 @List.rec α (fun _=>Nat→Option α) (fun _=>none) (fun x _ ih n=>@Bool.rec (fun _=>Option α) (ih (Nat.pred n)) (some x) (Nat.beq n 0)) l
noncomputable def Jkq {α:Type}(l:List α):Nat→α→List α :=
 @List.rec α (fun _=>Nat→α→List α) (fun _ _=>[]) (fun x r ih n y=>@Bool.rec (fun _=>List α) (x::ih (Nat.pred n) y) (y::r) (Nat.beq n 0)) l
noncomputable def putL (l:Loc)(x:Nat)(d:D):Loc :=
 @List.rec (Nat×D) (fun _=>Loc) [(x,d)] (fun p r ih=>@Bool.rec (fun _=>Loc) (p::ih) ((p.1,d)::r) (Nat.beq p.1 x)) l
inductive Tr where
 | nil
 | node (v:Jo) (l r:Tr)
noncomputable def Tr.get (t:Tr):Nat→Option Jo :=
 @Tr.rec (fun _=>Nat→Option Jo) (fun _=>none)
  (fun v _ _ gl gr i=>@Bool.rec (fun _=>Option Jo) (@Bool.rec (fun _=>Option Jo) (gr (Nat.pred (Nat.div i 2))) (gl (Nat.div i 2)) (Nat.beq (Nat.mod i 2) 1)) (some v) (Nat.beq i 0)) t
noncomputable def Tr.put (t:Tr):Nat→Jo→Tr :=
 @Tr.rec (fun _=>Nat→Jo→Tr) (fun _ o=>.node o .nil .nil)
  (fun v l r pl pr i o=>@Bool.rec (fun _=>Tr) (@Bool.rec (fun _=>Tr) (.node v l (pr (Nat.pred (Nat.div i 2)) o)) (.node v (pl (Nat.div i 2) o) r) (Nat.beq (Nat.mod i 2) 1)) (.node o l r) (Nat.beq i 0)) t
noncomputable def goE (f:D→D→Option Bool)(l:List D):List D→Option Bool :=
 @List.rec D (fun _=>List D→Option Bool) (fun r=>@List.rec D (fun _=>Option Bool) (some true) (fun _ _ _=>some false) r)
  (fun a _ ih r=>@List.rec D (fun _=>Option Bool) (some false) (fun b t _=>@Option.rec Bool (fun _=>Option Bool) none (fun c=>@Bool.rec (fun _=>Option Bool) (some false) (ih t) c) (f a b)) r) l
noncomputable def Jhw (l:List (Option Bool)):Option Bool :=
 @List.rec (Option Bool) (fun _=>Option Bool) none (fun x r ih=>@List.rec (Option Bool) (fun _=>Option Bool) x (fun _ _ _ =>
  @Option.rec Bool (fun _=>Option Bool) none (fun a=>@Option.rec Bool (fun _=>Option Bool) none (fun b=>@Bool.rec (fun _=>Option Bool) (@Bool.rec (fun _=>Option Bool) (some false) none b) (@Bool.rec (fun _=>Option Bool) none (some true) b) a) ih) x) r) l
noncomputable def Jeh {α β:Type}(f:α→Option β)(l:List α):Option (List β) :=
 @List.rec α (fun _=>Option (List β)) (some []) (fun v _ ih=>@Option.rec β (fun _=>Option (List β)) none (fun x=>@Option.rec (List β) (fun _=>Option (List β)) none (fun r=>some (x::r)) ih) (f v)) l
noncomputable def Jw {α:Type}(f:α→Bool)(l:List α):Bool :=
 @List.rec α (fun _=>Bool) true (fun x _ ih=>@Bool.rec (fun _=>Bool) false ih (f x)) l
noncomputable def Jcm {α:Type}(l:List α):Nat→Bool :=
 @List.rec α (fun _=>Nat→Bool) (fun _=>true) (fun _ _ ih n=>@Bool.rec (fun _=>Bool) (ih (Nat.pred n)) false (Nat.beq n 0)) l
def JU {α:Type}(l:List α):Bool:=Jcm l 1000
def sEq (a b:Str):Bool:=lEq a.cps.toList b.cps.toList
noncomputable def iEq (a b:Int):Bool:=match a,b with
 | .ofNat m,.ofNat n=>Nat.beq m n
 | .negSucc m,.negSucc n=>Nat.beq m n
 | _,_=>false
noncomputable def iLt (a b:Int):Bool:=match a,b with
 | .ofNat m,.ofNat n=>Nat.blt m n
 | .ofNat _,.negSucc _=>false
 | .negSucc _,.ofNat _=>true
 | .negSucc m,.negSucc n=>Nat.blt n m
noncomputable def Jaz:Bool→Bool | true=>false | false=>true
noncomputable def Jh (a b:Bool):Bool:=match a with | true=>b | false=>false
noncomputable def orB (a b:Bool):Bool:=match a with | true=>true | false=>b
def IE.same:IE→IE→Bool
 | .lit a,.lit b=>iEq a b
 | .var s a,.var t b=>Jh (Nat.beq s t) (iEq a b)
 | .op k a b,.op k' a' b'=>Jh (Nat.beq k k') (Jh (IE.same a a') (IE.same b b'))
 | _,_=>false
def IE.eq? (a b:IE):Option Bool:=match a with
 | .lit x=>match b with
  | .lit y=>some (iEq x y)
  | _=>none
 | .var s x=>match b with
  | .var t y=>match Nat.beq s t with | true=>some (iEq x y) | false=>none
  | _=>none
 | .op k x y=>match IE.same (.op k x y) b with | true=>some true | false=>none
def SE.same:SE→SE→Bool
 | .lit a,.lit b=>sEq a b
 | .var s,.var t=>Nat.beq s t
 | .cat a b,.cat a' b'=>Jh (SE.same a a') (SE.same b b')
 | .ofInt a,.ofInt b=>IE.same a b
 | _,_=>false
def SE.eq? (a b:SE):Option Bool:=match a,b with
 | .lit x,.lit y=>some (sEq x y)
 | a,b=>match SE.same a b with | true=>some true | false=>none
def J5 (dm:JP)(j:Nat):List Nat:=match Js dm j with | some l=>l | none=>[]
def only (dm:JP)(j v:Nat):JP:=Jkq dm j [v]
noncomputable def bEq (a b:Bool):Bool:=match a,b with | true,true=>true | false,false=>true | _,_=>false
def Jih {β:Type}(dm:JP)(j:Nat)(l:List (Nat×D))(f:JP→D→Option β)(v:Nat):Option β:=match lkp l v with
 | some x=>f (only dm j v) x
 | none=>none
def JoA (ih:JP→D→D→Option Bool)(dm:JP)(j:Nat)(l:List (Nat×D))(b:D):Option Bool :=
 Jhw ((J5 dm j).map fun v=>Jih dm j l (fun dm x=>ih dm x b) v)
def JdC (ih:JP→D→D→Option Bool)(dm:JP)(a:D)(j:Nat)(l:List (Nat×D)):Option Bool :=
 Jhw ((J5 dm j).map fun v=>Jih dm j l (fun dm x=>ih dm a x) v)
def Jo3 (ih:JP→D→D→Option Bool)(dm:JP)(a b:D):Option Bool:=match a with
 | .tab j l=>JoA ih dm j l b
 | .int x=>match b with
  | .int y=>IE.eq? x y
  | .none=>some false
  | .tab j l=>JdC ih dm a j l
  | _=>none
 | .str x=>match b with
  | .str y=>SE.eq? x y
  | .tab j l=>JdC ih dm a j l
  | _=>none
 | .none=>match b with
  | .none=>some true
  | .tup _=>some false
  | .int _=>some false
  | .tab j l=>JdC ih dm a j l
  | _=>none
 | .bool x=>match b with
  | .bool y=>some (bEq x y)
  | .tab j l=>JdC ih dm a j l
  | _=>none
 | .tup l=>match b with
  | .tup r=>goE (ih dm) l r
  | .none=>some false
  | .tab j l=>JdC ih dm a j l
  | _=>none
 | _=>none
def eqD (n:Nat):JP→D→D→Option Bool:=@Nat.rec (fun _=>JP→D→D→Option Bool) (fun _ _ _=>none) (fun _ ih=>Jo3 ih) n
def Jlr (ih:D→Bool)(d:D):Bool:=match d with
 | .none=>true
 | .bool _=>true
 | .int _=>true
 | .str _=>true
 | .tup l=>Jw ih l
 | .tab _ l=>Jw (fun p=>ih p.2) l
 | _=>false
def Jce (n:Nat):D→Bool:=@Nat.rec (fun _=>D→Bool) (fun _=>false) (fun _ ih=>Jlr ih) n
def Jap:D→D→Bool
 | .none,.none=>true
 | .bool a,.bool b=>bEq a b
 | .int a,.int b=>IE.same a b
 | .str a,.str b=>SE.same a b
 | .tup l,.tup r=>goT l r
 | .obj i,.obj j=>Nat.beq i j
 | .tab i l,.tab j r=>(match Nat.beq i j with | true=>goR l r | false=>false)
 | _,_=>false
where
 goT:List D→List D→Bool
  | [],[]=>true
  | a::l,b::r=>(match Jap a b with | true=>goT l r | false=>false)
  | _,_=>false
 goR:List (Nat×D)→List (Nat×D)→Bool
  | [],[]=>true
  | (v,a)::l,(u,b)::r=>(match Nat.beq v u with
   | true=>(match Jap a b with | true=>goR l r | false=>false)
   | false=>false)
  | _,_=>false
def Jlh (x:D)(l:List (Nat×D)):Bool:=Jw (fun p=>Jap x p.2) l
def Jhl (j:Nat)(l:List (Nat×D)):Option D:=match l with
 | (v,x)::r=>match Jlh x r with | true=>some x | false=>some (.tab j ((v,x)::r))
 | []=>none
def Joj (dm:JP)(j:Nat)(l:List (Nat×D))(f:JP→D→Option D)(v:Nat):Option (Nat×D):=match Jih dm j l f v with
 | some x=>some (v,x)
 | none=>none
def Jps (ih:JP→D→Option D)(dm:JP)(j:Nat)(l:List (Nat×D)):Option D:=match Jeh (Joj dm j l ih) (J5 dm j) with
 | some r=>Jhl j r
 | none=>none
def Jji (f:JP→D→Option D)(ih:JP→D→Option D)(dm:JP)(d:D):Option D:=match d with
 | .tab j l=>Jps ih dm j l
 | d=>f dm d
def JbP (f:JP→D→Option D)(n:Nat):JP→D→Option D:=@Nat.rec (fun _=>JP→D→Option D) (fun _ _=>none) (fun _ ih=>Jji f ih) n
def Je2 (f:JP→D→D→Option D)(dm:JP)(a b:D):Option D:=JbP (fun dm x=>JbP (fun dm y=>f dm x y) 8 dm b) 8 dm a
noncomputable def Jd9:D→Option Nat
 | .tab j _=>some j
 | .tup l=>go l
 | _=>none
where go:List D→Option Nat
 | []=>none
 | d::r=>match Jd9 d with | some j=>some j | none=>go r
def Jbh (j v:Nat):D→Option D
 | .tab i l=>match Nat.beq i j with
  | true=>lkp l v
  | false=>some (.tab i l)
 | .tup l=>match go j v l with | some l=>some (.tup l) | none=>none
 | d=>some d
where go (j v:Nat):List D→Option (List D)
 | []=>some []
 | d::r=>match Jbh j v d,go j v r with
  | some x,some r=>some (x::r)
  | _,_=>none
def JhL (ih:JP→D→Option D)(dm:JP)(j:Nat)(d:D)(v:Nat):Option (Nat×D):=match Jbh j v d with
 | some x=>match ih (only dm j v) x with
  | some y=>some (v,y)
  | none=>none
 | none=>none
def JmX (ih:JP→D→Option D)(dm:JP)(d:D):Option D:=match d with
 | .tup l=>match Jd9 (.tup l) with
  | some j=>match Jeh (JhL ih dm j (.tup l)) (J5 dm j) with
   | some r=>Jhl j r
   | none=>none
  | none=>some (.tup l)
 | d=>some d
def Jvi (n:Nat):JP→D→Option D:=@Nat.rec (fun _=>JP→D→Option D) (fun _ d=>some d) (fun _ ih=>JmX ih) n
def JqC (ih:JP→D→D)(dm:JP)(d:D):D:=match d with
 | .tab j l=>match J5 dm j with
  | [v]=>match lkp l v with | some x=>ih dm x | none=>.tab j l
  | _=>.tab j l
 | d=>d
def nrm (n:Nat):JP→D→D:=@Nat.rec (fun _=>JP→D→D) (fun _ d=>d) (fun _ ih=>JqC ih) n
structure St where
 objs:Tr
 n:Nat
 loc:Loc
 rest:List Loc
 dom:JP
def St.setLoc (s:St)(x:Nat)(d:D):St:=⟨s.objs,s.n,putL s.loc x d,s.rest,s.dom⟩
noncomputable def St.alloc (s:St)(o:Jo):St:=⟨s.objs.put s.n o,Nat.succ s.n,s.loc,s.rest,s.dom⟩
noncomputable def St.set (s:St)(i:Nat)(o:Jo):St:=⟨s.objs.put i o,s.n,s.loc,s.rest,s.dom⟩
def St.only (s:St)(j:Nat)(vs:List Nat):St:=⟨s.objs,s.n,s.loc,s.rest,Jkq s.dom j vs⟩
noncomputable def St.push (s:St)(l:Loc):St:=⟨s.objs,s.n,l,s.loc::s.rest,s.dom⟩
noncomputable def St.pop (s:St)(l:Loc)(r:List Loc):St:=⟨s.objs,s.n,l,r,s.dom⟩
noncomputable def Jr3:D→Option Nat
 | .int _=>some 0
 | .str _=>some 1
 | .tup _=>some 2
 | _=>none
def eqK (k x:D):Option Bool:=match k with
 | .int a=>match x with | .int b=>IE.eq? a b | _=>none
 | .str a=>match x with | .str b=>SE.eq? a b | _=>none
 | .tup a=>match x with | .tup b=>eqD 12 [] (.tup a) (.tup b) | _=>none
 | _=>none
def Jba:List (D×D)→D→Option (Option D)
 | [],_=>some none
 | (k,v)::r,x=>match eqK k x with
  | some true=>some (some v)
  | some false=>Jba r x
  | none=>none
def Jb7:List (D×D)→D→D→Option (List (D×D))
 | [],x,d=>some [(x,d)]
 | (k,v)::r,x,d=>match eqK k x with
  | some true=>some ((k,d)::r)
  | some false=>match Jb7 r x d with | some r'=>some ((k,v)::r') | none=>none
  | none=>none
def Jn1 (ih:D→Bool)(d:D):Bool:=match d with
 | .int _=>true
 | .tup l=>Jw ih l
 | _=>false
def itD (n:Nat):D→Bool:=@Nat.rec (fun _=>D→Bool) (fun _=>false) (fun _ ih=>Jn1 ih) n
def Jho (x:D):Bool:=match x with
 | .int _=>true
 | .str _=>true
 | .tup l=>Jw (itD 6) l
 | _=>false
def Jlo (l:List (D×D))(x:D):Option (Option D):=match Jho x with | true=>Jba l x | false=>none
def JcU (o:Jo)(x:D):Option (Option D):=match o with
 | .dict _ l=>Jlo l x
 | .sdict l=>Jlo l x
 | .idict l=>match x with
  | .int (.var 1 (.ofNat _))=>Jba l x
  | _=>none
 | _=>none
def JjM:List (Nat×D×D)→D→Option (Option (Nat×D))
 | [],_=>some none
 | (j,k,v)::r,x=>match eqK k x with
  | some true=>some (some (j,v))
  | some false=>JjM r x
  | none=>none
def JbL (l:List (Nat×D×D))(x:D):Option (Option (Nat×D)):=match x with
 | .tup m=>match Jw (itD 6) m with | true=>JjM l (.tup m) | false=>none
 | _=>none
noncomputable def Jek:D→Option Nat
 | .int (.lit (.ofNat n))=>match Nat.blt n 1073741824 with | true=>some n | false=>none
 | _=>none
noncomputable def ofB (b:Option Bool):Option D:=match b with | some b=>some (.bool b) | none=>none
noncomputable def JcR (m:Nat):Bool:=Nat.blt m 1073741824
noncomputable def JuU (n:Nat)(r:IE):Option IE:=match Nat.beq n 0 with
 | true=>none
 | false=>some r
def JkA (op:Operator)(m n:Nat):Option IE:=match Jh (JcR m) (JcR n) with
 | false=>none
 | true=>match op with
  | .Add=>some (.lit (.ofNat (Nat.add m n)))
  | .Sub=>some (.lit (Int.subNatNat m n))
  | .Mult=>some (.lit (.ofNat (Nat.mul m n)))
  | .FloorDiv=>JuU n (.lit (.ofNat (Nat.div m n)))
  | .Mod=>JuU n (.lit (.ofNat (Nat.mod m n)))
  | .BitAnd=>some (.lit (.ofNat (Nat.land m n)))
  | .BitOr=>some (.lit (.ofNat (Nat.lor m n)))
  | _=>none
noncomputable def Jk6 (op:Operator)(x y:Int):Option IE:=match op with
 | .Add=>some (.lit (Int.add x y))
 | .Sub=>some (.lit (Int.sub x y))
 | _=>none
def JkS (op:Operator)(a:IE)(y:Int):Option IE:=match y with
 | .ofNat n=>match Jh (JcR n) (Jaz (Nat.beq n 0)) with
  | true=>match op with
   | .Add=>some (.op 0 a (.lit (.ofNat n)))
   | .Mult=>some (.op 2 a (.lit (.ofNat n)))
   | .FloorDiv=>some (.op 3 a (.lit (.ofNat n)))
   | .Mod=>some (.op 4 a (.lit (.ofNat n)))
   | _=>none
  | false=>none
 | _=>none
def Jkc (op:Operator)(a b:IE):Option IE:=match a with
 | .lit x=>match b with
  | .lit y=>match x with
   | .ofNat m=>match y with
    | .ofNat n=>JkA op m n
    | _=>Jk6 op x y
   | _=>Jk6 op x y
  | .var t o=>match op with
   | .Add=>some (.var t (Int.add x o))
   | _=>none
  | _=>none
 | .var t o=>match b with
  | .lit y=>match op with
   | .Add=>some (.var t (Int.add o y))
   | .Sub=>some (.var t (Int.sub o y))
   | op=>JkS op (.var t o) y
  | _=>none
 | .op k u v=>match b with
  | .lit y=>JkS op (.op k u v) y
  | _=>none
def Jjh (e:IE):Bool:=match e with
 | .var t o=>match o with | .ofNat o=>Jh (Nat.blt t 6) (Nat.ble o 1000) | _=>false
 | _=>false
def Jku:Nat→SE→Bool
 | n,.lit s=>JU s.cps.toList
 | n,.ofInt e=>Jjh e
 | n+1,.cat a b=>Jh (Jku n a) (Jku n b)
 | _,_=>false
def JtD (op:Operator)(_:JP)(a b:D):Option D:=match a with
 | .int a=>match b with | .int b=>(match Jkc op a b with | some e=>some (.int e) | none=>none) | _=>none
 | .str a=>match b with | .str b=>(match op with | .Add=>(match Jh (Jku 3 a) (Jku 3 b) with | true=>some (.str (.cat a b)) | false=>none) | _=>none) | _=>none
 | .tup a=>match b with | .tup b=>(match op with | .Add=>(match JU (a++b) with | true=>some (.tup (a++b)) | false=>none) | _=>none) | _=>none
 | _=>none
noncomputable def JAD (_:JP)(d:D):Option D:=match d with
 | .int (.lit i)=>some (.int (.lit (Int.neg i)))
 | _=>none
noncomputable def JdA {α:Type}(l:List α):Bool:=match l with | []=>true | _::_=>false
def Jli (st:St)(d:D):Option Bool:=match d with
 | .none=>some false
 | .bool b=>some b
 | .int e=>match e with
  | .lit i=>some (Jaz (iEq i 0))
  | .var t o=>match Nat.beq t 2 with | true=>(match o with | .ofNat _=>some true | _=>none) | false=>none
  | _=>none
 | .tup l=>match JU l with | true=>some (Jaz (JdA l)) | false=>none
 | .obj i=>match st.objs.get i with
  | some (.list 0 l)=>(match JU l with | true=>some (Jaz (JdA l)) | false=>none)
  | _=>none
 | _=>none
noncomputable def ltD (f:Int→Int→Bool)(a b:D):Option Bool:=match a with
 | .int (.lit x)=>match b with | .int (.lit y)=>some (f x y) | _=>none
 | _=>none
noncomputable def isD (a b:D):Option Bool:=match a with
 | .none=>match b with
  | .none=>some true
  | .obj _=>some false
  | .tup _=>some false
  | .int _=>some false
  | .str _=>some false
  | _=>none
 | .obj i=>match b with
  | .none=>some false
  | .obj j=>match Nat.beq i j with | true=>some true | false=>none
  | _=>none
 | .tup _=>match b with | .none=>some false | _=>none
 | .int _=>match b with | .none=>some false | _=>none
 | .str _=>match b with | .none=>some false | _=>none
 | _=>none
def inT (dm:JP)(x:D):List D→Option Bool
 | []=>some false
 | y::r=>match eqD 12 dm y x with
  | some true=>some true
  | some false=>inT dm x r
  | none=>none
def Jg3 (dm:JP)(j:Nat)(no yes:D):Option D:=match J5 dm j with
 | [v]=>match Nat.beq v 0 with | true=>some no | false=>some yes
 | [_,_]=>some (.tab j [(0,no),(1,yes)])
 | _=>none
noncomputable def Jr4 (r:Option (Option D))(dflt:D):Option D:=match r with
 | some o=>match o with | some v=>some v | none=>some dflt
 | none=>none
def JEA (st:St)(i:Nat)(dm:JP)(x dflt:D):Option D:=match st.objs.get i with
 | some o=>match o with
  | .cdict l=>match JbL l x with
   | some o=>match o with | some (j,v)=>Jg3 dm j dflt v | none=>some dflt
   | none=>none
  | o=>Jr4 (JcU o x) dflt
 | none=>none
noncomputable def Jr7 (r:Option (Option D)):Option D:=match r with
 | some o=>match o with | some _=>some (.bool true) | none=>some (.bool false)
 | none=>none
def inD (st:St)(dm:JP)(x b:D):Option D:=match b with
 | .tup l=>match Jh (Jce 8 x) (Jw (Jce 8) l) with
  | true=>ofB (inT dm x l)
  | false=>none
 | .obj i=>match st.objs.get i with
  | some o=>match o with
   | .cdict l=>match JbL l x with
    | some o=>match o with | some (j,_)=>Jg3 dm j (.bool false) (.bool true) | none=>some (.bool false)
    | none=>none
   | o=>Jr7 (JcU o x)
  | none=>none
 | _=>none
def JFl (_:JP)(d:D):Option D:=match d with | .bool b=>some (.bool (Jaz b)) | _=>none
noncomputable def okT (t:Nat):Bool:=match Nat.beq t 0 with | true=>true | false=>Nat.beq t 5
def JiL (st:St)(dm:JP)(i j:Nat):Option D:=match st.objs.get i with
 | some (.list t l)=>match st.objs.get j with
  | some (.list u r)=>match Jh (Nat.beq t u) (okT t) with
   | true=>match Jh (Jw (Jce 8) l) (Jw (Jce 8) r) with
    | true=>match goE (eqD 12 dm) l r with | some true=>some (.bool true) | _=>none
    | false=>none
   | false=>none
  | _=>none
 | _=>none
def eqX (dm:JP)(a b:D):Option Bool:=match Jh (Jce 8 a) (Jce 8 b) with
 | true=>eqD 12 dm a b
 | false=>none
def eqV (st:St)(dm:JP)(a b:D):Option D:=match a with
 | .obj i=>match b with
  | .obj j=>JiL st dm i j
  | _=>none
 | a=>ofB (eqX dm a b)
def Jnb (b:Option Bool):Option D:=match b with | some b=>some (.bool (Jaz b)) | none=>none
def gtI (x y:Int):Bool:=iLt y x
def JnK (st:St)(op:CmpOp)(dm:JP)(a b:D):Option D:=match op with
 | .Eq=>eqV st dm a b
 | .NotEq=>Jnb (eqX dm a b)
 | .Lt=>ofB (ltD iLt a b)
 | .GtE=>Jnb (ltD iLt a b)
 | .Gt=>ofB (ltD gtI a b)
 | .LtE=>Jnb (ltD gtI a b)
 | .Is=>ofB (isD a b)
 | .IsNot=>Jnb (isD a b)
 | .In=>inD st dm a b
 | .NotIn=>match inD st dm a b with
  | some d=>JbP JFl 3 dm d
  | none=>none
noncomputable def Jae:List D:=[(.tup [I 3,I 1,I 2,I 0,I 0,I 0,I 0,I 0,I 3,I 0]),(.tup [I 4,I 0,I 2,I 0,I 0,I 0,I 1,I 0,I 0,I 0]),(.tup [I 5,I 0,I 2,I 0,I 0,I 0,I 1,I 0,I 0,I 0]),(.tup [I 0,I 0,I 2,I 0,I 0,I 0,I 1,I 0,I 0,I 0]),(.tup [I 1,I 1,I 2,I 0,I 0,I 2,I 1,I 0,I 3,I 0]),(.tup [I 2,I 2,I 2,I 0,I 0,I 1,I 1,I 0,I 0,I 0]),(.tup [I 2,I 1,I 0,I 0,I 0,I 2,I 0,I 0,I 0,I 0]),(.tup [I 2,I 1,I 0,I 1,I 1,I 0,I 1,I 0,I 3,I 0]),(.tup [I 2,I 0,I 0,I 1,I 1,I 0,I 3,I 0,I 0,I 0]),(.tup [I 2,I 2,I 0,I 0,I 2,I 0,I 1,I 0,I 0,I 0]),(.tup [I 2,I 1,I 0,I 2,I 0,I 1,I 3,I 0,I 6,I 0]),(.tup [I 2,I 0,I 0,I 3,I 0,I 0,I 6,I 3,I 0,I 0]),(.tup [I 2,I 3,I 0,I 0,I 1,I 0,I 1,I 0,I 0,I 0]),(.tup [I 0,I 0,I 0,I 0,I 1,I 0,I 1,I 0,I 0,I 1]),(.tup [I 0,I 0,I 0,I 3,I 0,I 1,I 5,I 0,I 0,I 1]),(.tup [I 0,I 2,I 0,I 2,I 2,I 0,I 1,I 0,I 7,I 1]),(.tup [I 0,I 4,I 0,I 1,I 1,I 0,I 2,I 2,I 0,I 0]),(.tup [I 1,I 0,I 0,I 3,I 0,I 0,I 1,I 1,I 0,I 0]),(.tup [I 1,I 4,I 0,I 0,I 1,I 0,I 7,I 0,I 0,I 1]),(.tup [I 1,I 1,I 0,I 0,I 2,I 0,I 0,I 0,I 4,I 0]),(.tup [I 3,I 3,I 1,I 0,I 2,I 0,I 2,I 3,I 0,I 0]),(.tup [I 4,I 1,I 0,I 0,I 0,I 0,I 0,I 0,I 3,I 0]),(.tup [I 1,I 0,I 0,I 3,I 0,I 0,I 1,I 1,I 0,I 1])]
noncomputable def JW:List Nat:=[6,5,3,4,3,3,8,4,8,2]
def JFG:D:=.tup (JW.zipIdx.map fun (r,j)=>.tab j ((List.range r).map fun v=>(v,I v)))
def Jtv (l:List D)(x:D):Option D:=match l with
 | []=>match x with
  | .int e=>match e with
   | .lit i=>match i with | .ofNat n=>Js Jae n | _=>none
   | .var u o=>match Jh (Nat.beq u 3) (iEq o (.negSucc 199)) with | true=>some JFG | false=>none
   | _=>none
  | _=>none
 | _=>none
def Jyb (st:St)(dm:JP)(b x:D):Option D:=match b with
 | .tup l=>match Jek x with | some i=>Js l i | none=>none
 | .obj i=>match st.objs.get i with
  | some o=>match o with
   | .list t l=>match t with
    | 0=>match Jek x with | some i=>Js l i | none=>none
    | t+1=>match Nat.beq t 5 with
     | true=>Jtv l x
     | false=>match x with
      | .int (.var u (.ofNat k))=>match Jh (Nat.beq (t+1) u) (Nat.blt k 1073741824) with | true=>Js l k | false=>none
      | _=>none
   | .cdict l=>match JbL l x with
    | some (some (j,v))=>match J5 dm j with | [u]=>(match Nat.beq u 1 with | true=>some v | false=>none) | _=>none
    | _=>none
   | o=>match JcU o x with | some o=>o | none=>none
  | none=>none
 | _=>none
def Jn2 (l r:List D):Option D:=match JU l with
 | true=>some (.tup r)
 | false=>none
def Jpi (lo:D)(_:JP)(b hi:D):Option D:=match b with
 | .tup l=>match lo with
  | .none=>match hi with
   | .int (.lit (.ofNat h))=>Jn2 l (l.take h)
   | _=>none
  | .int (.lit (.ofNat a))=>match hi with
   | .none=>Jn2 l (l.drop a)
   | .int (.lit (.ofNat h))=>Jn2 l ((l.take h).drop a)
   | _=>none
  | _=>none
 | _=>none
inductive Fl where
 | next
 | ret (d:D)
def Jg2 (ih:D→St→(D→St→Bool)→Bool)(l:List (Nat×D))(j:Nat)(vs:List Nat)(st:St)(k:D→St→Bool):Bool:=match vs with
 | []=>false
 | v::r=>Jw (fun v=>match lkp l v with | some x=>ih x (st.only j [v]) k | none=>false) (v::r)
def Jhm (ih:D→St→(D→St→Bool)→Bool)(d:D)(st:St)(k:D→St→Bool):Bool:=match d with
 | .tab j l=>Jg2 ih l j (J5 st.dom j) st k
 | d=>k d st
def Je1 (n:Nat):D→St→(D→St→Bool)→Bool:=@Nat.rec (fun _=>D→St→(D→St→Bool)→Bool) (fun _ _ _=>false) (fun _ ih=>Jhm ih) n
def JiI (st:St)(l:List (Nat×D))(v:Nat):Option (Nat×Bool):=match lkp l v with
 | some x=>match Jli st x with | some b=>some (v,b) | none=>none
 | none=>none
def JgH (b:Bool)(l:List (Nat×Bool)):List Nat:=(l.filter fun p=>bEq p.2 b).map (·.1)
def Jgc (k:Bool→St→Bool)(d:D)(st:St):Bool:=match Jli st d with | some b=>k b st | none=>false
def Jc5 (st:St)(k:Bool→St→Bool)(j:Nat)(t f:List Nat):Bool:=match t with
 | []=>match f with
  | []=>false
  | _::_=>k false st
 | _::_=>match f with
  | []=>k true st
  | _::_=>Jh (k true (st.only j t)) (k false (st.only j f))
def JdG (d:D)(st:St)(k:Bool→St→Bool):Bool:=match d with
 | .tab j l=>match Jeh (JiI st l) (J5 st.dom j) with
  | some ps=>Jc5 st k j (JgH true ps) (JgH false ps)
  | none=>Je1 8 (.tab j l) st (Jgc k)
 | d=>Jgc k d st
inductive QE where
 | const (d:D)
 | loc (x:Nat)
 | bin (op:Operator) (a b:QE)
 | not (a:QE)
 | neg (a:QE)
 | ite (t a b:QE)
 | itec (op:CmpOp) (l r:QE) (i j:Int)
 | bop (op:BoolOp) (a b:QE)
 | cmp (op:CmpOp) (a b:QE)
 | tup (l:List QE)
 | list (l:List QE)
 | dict (l:List QE)
 | sub (a b:QE)
 | slice (a lo hi:QE)
 | rev (a:QE)
 | attr (a:QE) (x:Nat)
 | call (f:Nat) (l:List QE)
 | new (c:Nat) (l:List QE)
 | bi (k:Nat) (l:List QE)
 | meth (a:QE) (x:Nat) (l:List QE)
 | bad
inductive QT where
 | name (x:Nat)
 | attr (o:QE) (x:Nat)
 | sub (o x:QE)
 | tup (l:List QT)
 | bad
inductive QS where
 | expr (e:QE)
 | ret (e:QE)
 | asg (t:QT) (e:QE)
 | asgc (y:Nat) (elt:QE) (x:Nat) (it:QE) (fr:List Nat)
 | aug (x:Nat) (op:Operator) (e:QE)
 | ite (t:QE) (a b:List QS)
 | forr (t:QT) (n:QE) (b:List QS)
 | for_ (t:QT) (it:QE) (b:List QS)
 | whil (t:QE) (b:List QS)
 | bad
structure Cls where
 mth:List (Nat×Nat)
 init:Option Nat
 att:Nat
structure Ev where
 E:QE→St→(D→St→Bool)→Bool
 Es:List QE→St→(List D→St→Bool)→Bool
 T:QE→St→(Bool→St→Bool)→Bool
 S:QS→St→(Fl→St→Bool)→Bool
 Ss:List QS→St→(Fl→St→Bool)→Bool
 call:Nat→List D→St→(D→St→Bool)→Bool
 assign:QT→D→St→(St→Bool)→Bool
 assigns:List QT→List D→St→(St→Bool)→Bool
 items:QT→List D→List QS→St→(Fl→St→Bool)→Bool
 live:QT→Nat→Nat→List QS→St→(Fl→St→Bool)→Bool
 loop:QE→List QS→St→(Fl→St→Bool)→Bool
 comp:QE→Nat→Nat→Nat→St→(List D→St→Bool)→Bool
noncomputable def bot:Ev:=⟨fun _ _ _=>false,fun _ _ _=>false,fun _ _ _=>false,fun _ _ _=>false,fun _ _ _=>false,fun _ _ _ _=>false,fun _ _ _ _=>false,fun _ _ _ _=>false,fun _ _ _ _ _=>false,fun _ _ _ _ _ _=>false,fun _ _ _ _=>false,fun _ _ _ _ _ _=>false⟩
def Jd8 (f:JP→D→D→Option D)(dm:JP)(a b:D):Option D:=match Jvi 4 dm b with
 | some b=>Je2 f dm a b
 | none=>none
noncomputable def JbV (m x:Nat):Bool:=Nat.beq (Nat.land (Nat.shiftRight m x) 1) 1
noncomputable def Jlq:List Nat→List D→Option Loc
 | [],[]=>some []
 | a::as,d::ds=>match Jlq as ds with | some l=>some ((a,d)::l) | none=>none
 | _,_=>none
def JDM (_:JP)(d:D):Option D:=match d with
 | .int e=>(match e with | .lit (.ofNat n)=>(match JcR n with | true=>some (.str (.lit (Str.ofString (toString n)))) | false=>none) | e=>match Jjh e with | true=>some (.str (.ofInt e)) | false=>none)
 | _=>none
def Jr9 (_:JP)(d:D):Option D:=match d with
 | .tup l=>match JU l with | true=>some (I l.length) | false=>none
 | _=>none
noncomputable def Jbv:List D→List (D×D)
 | a::r=>match r with | b::r=>(a,b)::Jbv r | []=>[]
 | []=>[]
def Jb6:List (D×D)→List (D×D)→Option (List (D×D))
 | acc,[]=>some acc
 | acc,(k,v)::r=>match Jb7 acc k v with | some a=>Jb6 a r | none=>none
def JcF (x:D):Option Nat:=match Jho x with | true=>Jr3 x | false=>none
def Jes:List (D×D)→Option Nat
 | []=>some 3
 | (k,_)::r=>match r with
  | []=>JcF k
  | _::_=>match JcF k,Jes r with
   | some a,some b=>match Nat.beq a b with | true=>some a | false=>none
   | _,_=>none
def Jst (o:Jo)(x d:D):Option Jo:=match o with
 | .dict kd l=>match JcF x with
  | some k=>match l with
   | []=>some (.dict k [(x,d)])
   | _::_=>match Nat.beq k kd with
    | true=>(match JU l with | true=>(match Jb7 l x d with | some l=>some (.dict kd l) | none=>none) | false=>none)
    | false=>none
  | none=>none
 | .idict l=>match x with
  | .int (.var 1 (.ofNat _))=>(match JU l with | true=>(match Jb7 l x d with | some l=>some (.idict l) | none=>none) | false=>none)
  | _=>none
 | .list t l=>match t with
  | 0=>match Jek x with
   | some n=>(match Js l n with | some _=>some (.list 0 (Jkq l n d)) | none=>none)
   | none=>none
  | _=>none
 | _=>none
def JuQ (st:St)(op:CmpOp)(a b:D):Option D:=match op with
 | .In=>Jd8 (fun dm b a=>JnK st .In dm a b) st.dom b a
 | op=>Je2 (JnK st op) st.dom a b
noncomputable def JNm (i j:Int)(_:JP)(d:D):Option D:=match d with
 | .bool b=>some (.int (.lit (match b with | true=>i | false=>j)))
 | _=>none
noncomputable def kO (o:Option D)(st:St)(k:D→St→Bool):Bool:=match o with | some d=>k d st | none=>false
section
variable (F:List (List Nat×List QS))(C:List Cls)
def Jov (st:St)(d:D)(x:Nat):Option D:=match d with
 | .obj i=>match st.objs.get i with
  | some (.inst c d)=>match Js C c with
   | some cl=>match JbV cl.att x with
    | true=>match st.objs.get d with
     | some (.ns _ l)=>match lkp l x with | some v=>some (nrm 4 st.dom v) | none=>none
     | _=>none
    | false=>none
   | none=>none
  | _=>none
 | _=>none
def JDQ (a:D)(st:St)(k:D→St→Bool):Bool:=match a with
 | .obj i=>match st.objs.get i with
  | some (.list t l)=>match JU l with
   | false=>false
   | true=>match t with
    | 0=>k (I l.length) st
    | t+1=>k (.int (.var (t+1) (.ofNat l.length))) st
  | _=>false
 | a=>kO (JbP Jr9 8 st.dom a) st k
def Jox (a:D)(st:St)(k:D→St→Bool):Bool:=match a with
 | .obj i=>match st.objs.get i with | some (.list 0 l)=>(match JU l with | true=>k (.tup l) st | false=>false) | _=>false
 | _=>false
def Jr0 (a:D)(st:St)(k:D→St→Bool):Bool:=match a with
 | .tup l=>match JU l with | true=>k (.obj st.n) (st.alloc (.list 0 l)) | false=>false
 | _=>false
def JkI (s:Nat)(args:List D)(st:St)(k:D→St→Bool):Bool:=match args with
 | [a]=>match s with
  | 0=>JDQ a st k
  | 1=>kO (JbP JDM 8 st.dom a) st k
  | 2=>Jox a st k
  | 3=>Jr0 a st k
  | _=>false
 | _=>false
def Jel (i t:Nat)(l:List D)(x:Nat)(args:List D)(st:St)(k:D→St→Bool):Bool:=match x with
 | 0=>match args with | [a]=>(match JU l with | true=>k .none (st.set i (.list t (l++[a]))) | false=>false) | _=>false
 | 1=>match t with
  | 0=>match args with
   | []=>match JU l with
    | true=>match l.reverse with
     | a::r=>k a (st.set i (.list 0 r.reverse))
     | []=>false
    | false=>false
   | _=>false
  | _=>false
 | _=>false
def JoO (st:St)(i:Nat)(b:D)(dm:JP)(_ a:D):Option D:=JEA st i dm a b
def JfK (i:Nat)(args:List D)(st:St)(k:D→St→Bool):Bool:=match args with
 | [a]=>kO (Jd8 (JoO st i .none) st.dom .none a) st k
 | [a,b]=>kO (Jd8 (JoO st i b) st.dom .none a) st k
 | _=>false
def JeY:List (D×D)→D→Option (D×List (D×D))
 | [],_=>none
 | (k,v)::r,x=>match eqK k x with
  | some true=>some (v,r)
  | some false=>match JeY r x with | some (d,r')=>some (d,(k,v)::r') | none=>none
  | none=>none
def JAF (i:Nat)(l:List (D×D))(x:D)(st:St)(k:D→St→Bool):Bool:=match JeY l x with
 | some (v,r)=>k v (st.set i (.dict 2 r))
 | none=>false
def Jd6 (i:Nat)(args:List D)(st:St)(k:D→St→Bool):Bool:=match args with
 | [x]=>match st.objs.get i with
  | some (.dict kd l)=>match kd with
   | 2=>match x with
    | .tup m=>match Jh (Jw (itD 6) m) (JU l) with | true=>JAF i l (.tup m) st k | false=>false
    | _=>false
   | _=>false
  | _=>false
 | _=>false
def Jti (x:Nat)(st:St)(k:D→St→Bool):Bool:=match lkp st.loc x with | some d=>k (nrm 4 st.dom d) st | none=>false
def Jyc (ih:Ev)(op:Operator)(a b:QE)(st:St)(k:D→St→Bool):Bool:=ih.E a st fun x st=>ih.E b st fun y st=>kO (Je2 (JtD op) st.dom x y) st k
def JxK (ih:Ev)(a:QE)(st:St)(k:D→St→Bool):Bool:=ih.E a st fun x st=>JdG x st fun b st=>k (.bool (Jaz b)) st
def JyK (ih:Ev)(a:QE)(st:St)(k:D→St→Bool):Bool:=ih.E a st fun x st=>kO (JbP JAD 8 st.dom x) st k
noncomputable def JwJ (ih:Ev)(t a b:QE)(st:St)(k:D→St→Bool):Bool:=ih.T t st fun c st=>match c with | true=>ih.E a st k | false=>ih.E b st k
def JrS (ih:Ev)(op:CmpOp)(l r:QE)(i j:Int)(st:St)(k:D→St→Bool):Bool:=ih.E l st fun x st=>ih.E r st fun y st=>match JuQ st op x y with
 | some d=>kO (JbP (JNm i j) 8 st.dom d) st k
 | none=>false
def Jzz (ih:Ev)(op:BoolOp)(a b:QE)(st:St)(k:D→St→Bool):Bool:=ih.E a st fun v st=>JdG v st fun c st=>match op with
 | .And=>match c with | true=>ih.E b st k | false=>k v st
 | .Or=>match c with | true=>k v st | false=>ih.E b st k
def Jun (ih:Ev)(op:CmpOp)(a b:QE)(st:St)(k:D→St→Bool):Bool:=ih.E a st fun x st=>ih.E b st fun y st=>kO (JuQ st op x y) st k
def JKU (ih:Ev)(l:List QE)(st:St)(k:D→St→Bool):Bool:=ih.Es l st fun ds st=>match JU ds with | true=>k (.tup ds) st | false=>false
def Jx6 (ih:Ev)(l:List QE)(st:St)(k:D→St→Bool):Bool:=ih.Es l st fun ds st=>match JU ds with | true=>k (.obj st.n) (st.alloc (.list 0 ds)) | false=>false
def JxX (ih:Ev)(l:List QE)(st:St)(k:D→St→Bool):Bool:=ih.Es l st fun kl st=>match Jb6 [] (Jbv kl) with
 | some l=>match Jes (Jbv kl) with
  | some kd=>k (.obj st.n) (st.alloc (.dict kd l))
  | none=>false
 | none=>false
def JyS (ih:Ev)(a b:QE)(st:St)(k:D→St→Bool):Bool:=ih.E a st fun x st=>ih.E b st fun y st=>kO (Jd8 (Jyb st) st.dom x y) st k
def Jn8 (ih:Ev)(a lo hi:QE)(st:St)(k:D→St→Bool):Bool:=ih.E a st fun x st=>ih.E lo st fun lo st=>ih.E hi st fun hi st=>kO (Je2 (Jpi lo) st.dom x hi) st k
def JEU (ih:Ev)(a:QE)(st:St)(k:D→St→Bool):Bool:=ih.E a st fun x st=>match x with
 | .obj i=>match st.objs.get i with | some (.list 0 l)=>(match JU l with | true=>k (.obj st.n) (st.alloc (.list 0 l.reverse)) | false=>false) | _=>false
 | _=>false
def Jr8 (ih:Ev)(a:QE)(x:Nat)(st:St)(k:D→St→Bool):Bool:=ih.E a st fun o st=>kO (Jov C st o x) st k
noncomputable def JEt (ih:Ev)(f:Nat)(l:List QE)(st:St)(k:D→St→Bool):Bool:=ih.Es l st fun ds st=>ih.call f ds st k
def Jfy (ih:Ev)(c:Nat)(ds:List D)(st:St)(k:D→St→Bool):Bool:=match Js C c with
 | some cl=>match cl.init with
  | some f=>ih.call f (.obj (Nat.succ st.n)::ds) ((st.alloc (.ns c [])).alloc (.inst c st.n)) fun r s=>match r with | .none=>k (.obj (Nat.succ st.n)) s | _=>false
  | none=>match ds with | []=>k (.obj (Nat.succ st.n)) ((st.alloc (.ns c [])).alloc (.inst c st.n)) | _=>false
 | none=>false
def JL8 (ih:Ev)(c:Nat)(l:List QE)(st:St)(k:D→St→Bool):Bool:=ih.Es l st fun ds st=>Jfy C ih c ds st k
def eBi (ih:Ev)(s:Nat)(l:List QE)(st:St)(k:D→St→Bool):Bool:=ih.Es l st fun ds st=>JkI s ds st k
def Jf3 (ih:Ev)(i:Nat)(x:Nat)(l:List QE)(st:St)(k:D→St→Bool):Bool:=match st.objs.get i with
 | some o=>match o with
  | .inst c _=>match Js C c with
   | some cl=>match lkp cl.mth x with
    | some f=>ih.Es l st fun ds st=>ih.call f (.obj i::ds) st k
    | none=>false
   | none=>false
  | .ns _ _=>false
  | .list _ _=>match Nat.ble x 1 with
   | true=>ih.Es l st fun ds st=>match st.objs.get i with | some (.list t m)=>Jel i t m x ds st k | _=>false
   | false=>false
  | _=>match Nat.beq x 2 with
   | true=>ih.Es l st fun ds st=>JfK i ds st k
   | false=>match Nat.beq x 1 with
    | true=>ih.Es l st fun ds st=>Jd6 i ds st k
    | false=>false
 | none=>false
def JAe (ih:Ev)(a:QE)(x:Nat)(l:List QE)(st:St)(k:D→St→Bool):Bool:=ih.E a st fun o st=>match o with
 | .obj i=>Jf3 C ih i x l st k
 | _=>false
def JAn (ih:Ev)(e:QE)(st:St)(k:D→St→Bool):Bool:=match e with
 | .const d=>k d st
 | .loc x=>Jti x st k
 | .bin op a b=>Jyc ih op a b st k
 | .not a=>JxK ih a st k
 | .neg a=>JyK ih a st k
 | .ite t a b=>JwJ ih t a b st k
 | .itec op l r i j=>JrS ih op l r i j st k
 | .bop op a b=>Jzz ih op a b st k
 | .cmp op a b=>Jun ih op a b st k
 | .tup l=>JKU ih l st k
 | .list l=>Jx6 ih l st k
 | .dict l=>JxX ih l st k
 | .sub a b=>JyS ih a b st k
 | .slice a lo hi=>Jn8 ih a lo hi st k
 | .rev a=>JEU ih a st k
 | .attr a x=>Jr8 C ih a x st k
 | .call f l=>JEt ih f l st k
 | .new c l=>JL8 C ih c l st k
 | .bi s l=>eBi ih s l st k
 | .meth a x l=>JAe C ih a x l st k
 | .bad=>false
noncomputable def JvF (ih:Ev)(es:List QE)(st:St)(k:List D→St→Bool):Bool:=match es with
 | []=>k [] st
 | e::r=>ih.E e st fun d st=>ih.Es r st fun l st=>k (d::l) st
def JFI (ih:Ev)(a:QE)(st:St)(k:Bool→St→Bool):Bool:=ih.T a st fun b st=>k (Jaz b) st
noncomputable def JxM (ih:Ev)(op:BoolOp)(a b:QE)(st:St)(k:Bool→St→Bool):Bool:=ih.T a st fun c st=>match op with
 | .And=>match c with | true=>ih.T b st k | false=>k false st
 | .Or=>match c with | true=>k true st | false=>ih.T b st k
noncomputable def JFx (ih:Ev)(t a b:QE)(st:St)(k:Bool→St→Bool):Bool:=ih.T t st fun c st=>match c with | true=>ih.T a st k | false=>ih.T b st k
def Jv0 (ih:Ev)(e:QE)(st:St)(k:Bool→St→Bool):Bool:=ih.E e st fun d st=>JdG d st k
def JEC (ih:Ev)(e:QE)(st:St)(k:Bool→St→Bool):Bool:=match e with
 | .not a=>JFI ih a st k
 | .bop op a b=>JxM ih op a b st k
 | .ite t a b=>JFx ih t a b st k
 | .itec _ _ _ _ _=>false
 | e=>Jv0 ih e st k
noncomputable def JjB (ih:Ev)(ts:List QT)(ds:List D)(st:St)(k:St→Bool):Bool:=match ts with
 | []=>match ds with | []=>k st | _::_=>false
 | t::ts=>match ds with
  | d::ds=>ih.assign t d st fun st=>ih.assigns ts ds st k
  | []=>false
def JrN (ih:Ev)(o:QE)(x:Nat)(d:D)(st:St)(k:St→Bool):Bool:=ih.E o st fun o st=>match o with
 | .obj i=>match st.objs.get i with
  | some (.inst c dd)=>match Js C c with
   | some cl=>match JbV cl.att x with
    | true=>match st.objs.get dd with
     | some (.ns c' l)=>match JU l with | true=>k (st.set dd (.ns c' (putL l x d))) | false=>false
     | _=>false
    | false=>false
   | none=>false
  | _=>false
 | _=>false
def JD9 (ih:Ev)(o x:QE)(d:D)(st:St)(k:St→Bool):Bool:=ih.E o st fun o st=>ih.E x st fun x st=>match o with
 | .obj i=>match st.objs.get i with
  | some o=>match Jst o x d with | some o=>k (st.set i o) | none=>false
  | none=>false
 | _=>false
noncomputable def Jc8 {α β:Type}:List α→List β→Bool
 | [],[]=>true
 | _::l,_::r=>Jc8 l r
 | _,_=>false
def JH8 (ih:Ev)(ts:List QT)(d:D)(st:St)(k:St→Bool):Bool:=Je1 8 d st fun d st=>match d with
 | .tup l=>match Jc8 l ts with | true=>ih.assigns ts l st k | false=>false
 | _=>false
def JkK (ih:Ev)(t:QT)(d:D)(st:St)(k:St→Bool):Bool:=match t with
 | .name x=>k (st.setLoc x d)
 | .attr o x=>JrN C ih o x d st k
 | .sub o x=>JD9 ih o x d st k
 | .tup ts=>JH8 ih ts d st k
 | .bad=>false
def JsQ (ih:Ev)(x:Nat)(op:Operator)(e:QE)(st:St)(k:Fl→St→Bool):Bool:=match lkp st.loc x with
 | some a=>match a with
  | .int (.lit a)=>ih.E e st fun b st=>match b with
   | .int (.lit b)=>match op with | .Add=>k .next (st.setLoc x (.int (.lit (Int.add a b)))) | _=>false
   | _=>false
  | _=>false
 | none=>false
def JDm (loc:Loc)(x:Nat):Bool:=match lkp loc x with | some _=>true | none=>false
def JrL (ih:Ev)(y:Nat)(elt:QE)(x:Nat)(it:QE)(fr:List Nat)(st:St)(k:Fl→St→Bool):Bool:=match Jw (JDm st.loc) fr with
 | true=>ih.E it st fun d st=>match d with
  | .obj i=>ih.comp elt x i 0 st fun r st=>k .next ((st.alloc (.list 0 r)).setLoc y (.obj st.n))
  | _=>false
 | false=>false
noncomputable def JBH (ih:Ev)(t:QE)(a b:List QS)(st:St)(k:Fl→St→Bool):Bool:=ih.T t st fun c st=>match c with | true=>ih.Ss a st k | false=>ih.Ss b st k
def JFs (ih:Ev)(t:QT)(n:QE)(b:List QS)(st:St)(k:Fl→St→Bool):Bool:=ih.E n st fun d st=>match Jek d with | some n=>ih.items t ((List.range n).map I) b st k | none=>false
def JI1 (ih:Ev)(t:QT)(it:QE)(b:List QS)(st:St)(k:Fl→St→Bool):Bool:=ih.E it st fun d st=>Je1 8 d st fun d st=>match d with
 | .tup l=>ih.items t l b st k
 | .obj i=>ih.live t i 0 b st k
 | _=>false
def JAz (ih:Ev)(s:QS)(st:St)(k:Fl→St→Bool):Bool:=match s with
 | .expr e=>ih.E e st fun _ st=>k .next st
 | .ret e=>ih.E e st fun d st=>k (.ret d) st
 | .asg t e=>ih.E e st fun d st=>ih.assign t d st fun st=>k .next st
 | .asgc y elt x it fr=>JrL ih y elt x it fr st k
 | .aug x op e=>JsQ ih x op e st k
 | .ite t a b=>JBH ih t a b st k
 | .forr t n b=>JFs ih t n b st k
 | .for_ t it b=>JI1 ih t it b st k
 | .whil t b=>ih.loop t b st k
 | .bad=>false
noncomputable def JvW (ih:Ev)(ss:List QS)(st:St)(k:Fl→St→Bool):Bool:=match ss with
 | []=>k .next st
 | s::r=>ih.S s st fun f st=>match f with | .next=>ih.Ss r st k | .ret d=>k (.ret d) st
noncomputable def JrY (f:Fl):D:=match f with | .ret d=>d | .next=>.none
def JcQ (ih:Ev)(f:Nat)(ds:List D)(st:St)(k:D→St→Bool):Bool:=match Js F f with
 | some (as,body)=>match Jlq as ds with
  | some loc=>ih.Ss body (st.push loc) fun f st=>match st.rest with
   | l::r=>k (JrY f) (st.pop l r)
   | []=>false
  | none=>false
 | none=>false
noncomputable def Jmd (ih:Ev)(t:QT)(l:List D)(body:List QS)(st:St)(k:Fl→St→Bool):Bool:=match l with
 | []=>k .next st
 | d::r=>ih.assign t d st fun st=>ih.Ss body st fun f st=>match f with | .next=>ih.items t r body st k | .ret d=>k (.ret d) st
noncomputable def Jsc (ih:Ev)(t:QT)(i n:Nat)(body:List QS)(d:D)(st:St)(k:Fl→St→Bool):Bool :=
 ih.assign t d st fun st=>ih.Ss body st fun f st=>match f with | .next=>ih.live t i (Nat.succ n) body st k | .ret d=>k (.ret d) st
def Jgl (ih:Ev)(t:QT)(i n:Nat)(body:List QS)(st:St)(k:Fl→St→Bool):Bool:=match st.objs.get i with
 | some (.list 0 l)=>match Js l n with
  | none=>k .next st
  | some d=>Jsc ih t i n body d st k
 | _=>false
noncomputable def Jpe (ih:Ev)(t:QE)(body:List QS)(st:St)(k:Fl→St→Bool):Bool:=ih.T t st fun c st=>match c with
 | true=>ih.Ss body st fun f st=>match f with | .next=>ih.loop t body st k | .ret d=>k (.ret d) st
 | false=>k .next st
def Jf8 (ih:Ev)(elt:QE)(x i j:Nat)(st:St)(k:List D→St→Bool):Bool:=match st.objs.get i with
 | some (.list 0 l)=>match JU l with
  | true=>match Js l j with
   | none=>k [] st
   | some d=>ih.E elt (st.push ((x,d)::st.loc)) fun v st=>match st.rest with
    | l::rs=>ih.comp elt x i (Nat.succ j) (st.pop l rs) fun vs st=>k (v::vs) st
    | []=>false
  | false=>false
 | _=>false
def step (ih:Ev):Ev:=⟨JAn C ih,JvF ih,JEC ih,JAz ih,JvW ih,JcQ F ih,JkK C ih,JjB ih,Jmd ih,Jgl ih,Jpe ih,Jf8 ih⟩
def ev (n:Nat):Ev:=@Nat.rec (fun _=>Ev) bot (fun _ ih=>step F C ih) n
end
inductive GV where
 | fn (f:Nat)
 | cls (c:Nat)
 | val (d:D)
 | bi (k:Nat)
def JO {α:Type}:List (Str×α)→Str→Option α
 | [],_=>none
 | (k,v)::r,x=>match sEq k x with | true=>some v | false=>JO r x
def JbO:List Str→Str→Nat→Option Nat
 | [],_,_=>none
 | k::r,x,n=>match sEq k x with | true=>some n | false=>JbO r x (Nat.succ n)
def JdO:Const→Option D
 | .none=>some .none
 | .bool b=>some (.bool b)
 | .int i=>some (.int (.lit i))
 | .str s=>match Jw (fun c=>Nat.blt c 1114112) s.cps.toList with | true=>some (.str (.lit s)) | false=>none
 | _=>none
noncomputable def JoD:Option NameKind→Bool
 | some .local=>true
 | some .cell=>true
 | some .free=>true
 | _=>false
section
variable (NT:List Str)(G:List (Str×GV))
noncomputable def Jqp:Expr→Option Const
 | .Constant c _ _=>some c
 | _=>none
noncomputable def JcV:Expr→Option Str
 | .Name x _=>some x
 | _=>none
noncomputable def JhH:Expr→Option (Expr×List Expr×List Keyword)
 | .Call f as ks _=>some (f,as,ks)
 | _=>none
def JaK (e:Expr):Option Int:=match Jqp e with
 | some c=>match c with | .int i=>some i | _=>none
 | none=>none
def Jdf (e:Expr):Bool:=match JhH e with
 | some p=>match JcV p.1 with | some x=>x != "super" | none=>true
 | none=>true
def JA (e:Expr):Bool:=Jaz (Nat.beq e.ctorIdx 22)
def Jnq (e:Expr):Bool:=Jaz (Nat.beq e.ctorIdx 24)
def Jhn (e:Expr):Bool:=Jaz (Nat.beq e.ctorIdx 25)
def Jft (e:Expr):Bool:=Jaz (Nat.beq e.ctorIdx 26)
def JcD (e:Expr):Bool:=Jaz (Nat.beq e.ctorIdx 7)
def JdI (e:Expr):Bool:=Jaz (Jh (Nat.ble 8 e.ctorIdx) (Nat.ble e.ctorIdx 10))
noncomputable def Jcn:Option NameKind→Bool
 | some k=>match k with | .local=>true | _=>false
 | none=>false
noncomputable def Jiu:Option NameKind→Bool
 | some k=>match k with | .globalImplicit=>true | _=>false
 | none=>false
def Je0 (x:Str):Nat:=match sEq x "append" with
 | true=>0
 | false=>match sEq x "pop" with
  | true=>1
  | false=>match sEq x "get" with
   | true=>2
   | false=>match JbO NT x 3 with | some n=>n | none=>1000
def Jea (sc:Scope)(x:Str):QE:=match sEq x "__debug__" with
 | true=>.bad
 | false=>match JoD (JO sc.names x) with
   | true=>(match JbO NT x 0 with | some i=>.loc i | none=>.bad)
   | false=>match Jiu (JO sc.names x) with
    | true=>(match JO G x with | some g=>(match g with | .val d=>.const d | _=>.bad) | none=>.bad)
    | false=>.bad
def Jmm (t a b:Expr):Option (Expr×CmpOp×Expr×Int×Int):=match t with
 | .Compare l ops rs _=>match ops with
  | [op]=>match rs with
   | [r]=>match behindInMarks op r with
    | false=>match JaK a with
     | some i=>match JaK b with | some j=>some (l,op,r,i,j) | none=>none
     | none=>none
    | true=>none
   | _=>none
  | _=>none
 | _=>none
def Jny (sc:Scope)(x:Str)(l:List QE):QE:=match Jiu (JO sc.names x) with
 | true=>match JO G x with
  | some g=>match g with
   | .fn f=>match Nat.blt f 900 with | true=>.call f l | false=>.bad
   | .cls c=>.new c l
   | .bi k=>.bi k l
   | _=>.bad
  | none=>.bad
 | false=>.bad
noncomputable def Jhc:List (Option Expr)→List Expr→Bool
 | [],[]=>true
 | some _::ks,_::vs=>Jhc ks vs
 | _,_=>false
def Jvk:Expr→Bool
 | .UnaryOp op e _=>match op with
  | .USub=>match JaK e with | some i=>iEq i 1 | none=>false
  | _=>false
 | _=>false
noncomputable def Jmr (f:Expr→QE):List (Option Expr)→List Expr→List QE
 | some k::ks,v::vs=>f k::f v::Jmr f ks vs
 | [],[]=>[]
 | _,_=>[.bad]
def Jt:Nat→Scope→Expr→QE
 | 0,_,_=>.bad
 | n+1,sc,e=>match e with
  | .Constant c _ _=>match JdO c with | some d=>.const d | none=>.bad
  | .Name x _=>Jea NT G sc x
  | .BinOp l op r _=>.bin op (Jt n sc l) (Jt n sc r)
  | .UnaryOp op x _=>match op with
   | .Not=>.not (Jt n sc x)
   | .USub=>.neg (Jt n sc x)
   | _=>.bad
  | .IfExp t a b _=>match Jmm t a b with
   | some (l,op,r,i,j)=>.itec op (Jt n sc l) (Jt n sc r) i j
   | none=>.ite (Jt n sc t) (Jt n sc a) (Jt n sc b)
  | .BoolOp op vs p=>match vs with
   | []=>.bad
   | x::r=>match r with
    | []=>.bad
    | y::r'=>match r' with
     | []=>.bop op (Jt n sc x) (Jt n sc y)
     | _::_=>.bop op (Jt n sc x) (Jt n sc (.BoolOp op r p))
  | .Compare l ops rs _=>match ops with
   | [op]=>match rs with
    | [r]=>match behindInMarks op r with
     | false=>.cmp op (Jt n sc l) (Jt n sc r)
     | true=>.bad
    | _=>.bad
   | _=>.bad
  | .Tuple es _ _=>match Jw JA es with | true=>.tup (es.map (Jt n sc)) | false=>.bad
  | .List es _=>match Jw JA es with | true=>.list (es.map (Jt n sc)) | false=>.bad
  | .Dict ks vs _=>match Jh (Jcm ks 15) (Jhc ks vs) with | true=>.dict (Jmr (Jt n sc) ks vs) | false=>.bad
  | .Subscript b sl _=>match sl with
   | .Slice lo hi stp _=>match stp with
    | none=>.slice (Jt n sc b) (match lo with | some e=>Jt n sc e | none=>.const .none) (match hi with | some e=>Jt n sc e | none=>.const .none)
    | some m=>match lo with
     | none=>match hi with
      | none=>match Jvk m with | true=>.rev (Jt n sc b) | false=>.bad
      | some _=>.bad
     | some _=>.bad
   | sl=>.sub (Jt n sc b) (Jt n sc sl)
  | .Attribute o x _=>match Jdf o with | true=>(match JbO NT x 0 with | some i=>.attr (Jt n sc o) i | none=>.bad) | false=>.bad
  | .Call f as ks pos=>match ks with
   | []=>match f with
    | .Attribute o x apos=>match Jh (Jh (Nat.beq apos.endLine pos.line) (Jdf o)) (Jh (Jcm as 20) (Jw JA as)) with
     | true=>.meth (Jt n sc o) (Je0 NT x) (as.map (Jt n sc))
     | false=>.bad
    | .Name x _=>match Jw JA as with | true=>Jny G sc x (as.map (Jt n sc)) | false=>.bad
    | _=>.bad
   | _=>.bad
  | _=>.bad
def Jxh (sc:Scope)(x:Str):QT:=match Jcn (JO sc.names x) with
 | true=>match JbO NT x 0 with | some i=>.name i | none=>.bad
 | false=>.bad
def JdL:Nat→Scope→Expr→QT
 | 0,_,_=>.bad
 | n+1,sc,t=>match t with
  | .Name x _=>Jxh NT sc x
  | .Attribute o x _=>match JbO NT x 0 with | some i=>.attr (Jt NT G n sc o) i | none=>.bad
  | .Subscript o x _=>.sub (Jt NT G n sc o) (Jt NT G n sc x)
  | .Tuple ts _ _=>match Jw JA ts with | true=>.tup (ts.map (JdL n sc)) | false=>.bad
  | _=>.bad
def Ju0 (sc:Scope)(f:Str):Bool:=match Jiu (JO sc.names f) with
 | true=>match JO G f with
  | some g=>match g with | .bi k=>Nat.beq k 4 | _=>false
  | none=>false
 | false=>false
def JdZ (sc:Scope)(it:Expr):Option Expr:=match JhH it with
 | some p=>match JcV p.1 with
  | some f=>match p.2.1 with
   | [a]=>match p.2.2 with
    | []=>match Ju0 G sc f with | true=>some a | false=>none
    | _=>none
   | _=>none
  | none=>none
 | none=>none
def JIc (sc:Scope)(x:Str)(op:Operator)(e:QE):QS:=match Jcn (JO sc.names x) with
 | true=>match JbO NT x 0 with | some i=>.aug i op e | none=>.bad
 | false=>.bad
def Jm0 (t e:Expr):Bool:=Jh (Jh (JA t) (Jnq t)) (Jh (JdI e) (match Jhn t with | true=>true | false=>Jhn e))
noncomputable def Jbn (csc sc:Scope):Scope:={ csc with names:=csc.names.map fun (n,k)=>if (k==.free&&sc.kind==.function&&sc.names.lookup n==some .cell) then (n,.cell) else (n,k) }
noncomputable def Jyp:Option NameKind→Bool
 | some .cell=>true
 | some .free=>true
 | _=>false
def Jat (sc:Scope)(x:Str):List (Str×NameKind)→Option (List Nat)
 | []=>some []
 | (n,k)::r=>match k with
  | .local=>match sEq n x with
   | true=>Jat sc x r
   | false=>match sEq n ".0" with | true=>Jat sc x r | false=>none
  | .free=>match Jyp (JO sc.names n) with
   | true=>match JbO NT n 0 with
    | some i=>match Jat sc x r with | some l=>some (i::l) | none=>none
    | none=>none
   | false=>none
  | _=>none
noncomputable def Jnk (t v:Pos):Bool:=Nat.beq t.line v.line
noncomputable def Jn6 (sc:Scope):Bool:=match sc.kind with | .function=>true | _=>false
def Joh (sc csc:Scope)(t:Expr)(pos:Pos)(g:Comprehension)(y x:Str):Bool :=
 Jh (Jh (Jh (JdA g.ifs) (iEq g.is_async 0)) (Jh (Jnk t.pos pos) (JcD g.iter)))
  (Jh (Jh (Jn6 csc) (Jcn (JO sc.names y))) (Jh (Jaz (csc.names.any fun (n,k)=>n==y&&(k==.local||k==.cell))) (Jcn (JO csc.names x))))
def JAc (n:Nat)(sc:Scope)(t:Expr)(elt:Expr)(gens:List Comprehension)(csc:Scope)(pos:Pos):QS:=match gens with
 | [g]=>match JcV t with
  | some y=>match JcV g.target with
   | some x=>match Joh sc csc t pos g y x with
    | true=>match Jat NT sc x csc.names with
     | some fr=>match JbO NT y 0 with
      | some yi=>match JbO NT x 0 with
       | some xi=>.asgc yi (Jt NT G n (Jbn csc sc) elt) xi (Jt NT G n sc g.iter) fr
       | none=>.bad
      | none=>.bad
     | none=>.bad
    | false=>.bad
   | none=>.bad
  | none=>.bad
 | _=>.bad
def Jbz:Nat→Scope→Stmt→QS
 | 0,_,_=>.bad
 | n+1,sc,s=>match s with
  | .Expr e _=>match JdI e with | true=>.expr (Jt NT G n sc e) | false=>.bad
  | .Return e _=>match e with
   | some e=>.ret (Jt NT G n sc e)
   | none=>.ret (.const .none)
  | .Assign ts e _=>match ts with
   | [t]=>match e with
    | .ListComp elt gens csc pos=>JAc NT G n sc t elt gens csc pos
    | e=>match Jm0 t e with | true=>.asg (JdL NT G n sc t) (Jt NT G n sc e) | false=>.bad
   | _=>.bad
  | .AugAssign t op e _=>match JcV t with
   | some x=>JIc NT sc x op (Jt NT G n sc e)
   | none=>.bad
  | .If t a b _=>.ite (Jt NT G n sc t) (a.map (Jbz n sc)) (b.map (Jbz n sc))
  | .For t it body els _=>match els with
   | []=>match JdZ G sc it with
    | some a=>match JA a with | true=>.forr (JdL NT G n sc t) (Jt NT G n sc a) (body.map (Jbz n sc)) | false=>.bad
    | none=>match JcD it with | true=>.for_ (JdL NT G n sc t) (Jt NT G n sc it) (body.map (Jbz n sc)) | false=>.bad
   | _=>.bad
  | .While t body els _=>match els with
   | []=>.whil (Jt NT G n sc t) (body.map (Jbz n sc))
   | _=>.bad
  | _=>.bad
def Jav (prog:List Stmt)(p:Nat×Nat):Option Stmt:=match p.2 with
 | 0=>Js prog p.1
 | j+1=>match Js prog p.1 with
  | some (.ClassDef _ _ _ b _ _ _ _ _ _ _)=>Js b j
  | _=>none
end
noncomputable abbrev zs:=Str.ofString
def NT:List Str:=[(zs "self"),(zs "number"),(zs "row"),(zs "rows"),(zs "index"),(zs "depths"),(zs "weights"),(zs "opens"),(zs "append"),(zs "k"),(zs "found"),(zs "depth"),(zs "weight"),(zs "opened"),(zs "level"),(zs "inner"),(zs "get"),(zs "sort"),(zs "kt"),(zs "args"),(zs "arg"),(zs "tid"),(zs "put"),(zs "i"),(zs "targs"),(zs "margs"),(zs "seen"),(zs "part"),(zs "place"),(zs "fid"),(zs "owner"),(zs "name"),(zs "kind"),(zs "access"),(zs "flags"),(zs "value"),(zs "types"),(zs "fields_"),(zs "methods"),(zs "names"),(zs "asms"),(zs "entry"),(zs "store"),(zs "t"),(zs "params"),(zs "fref"),(zs "f"),(zs "host"),(zs "out"),(zs "todo"),(zs "b"),(zs "pop"),(zs "bounds"),(zs "gflags"),(zs "a"),(zs "kids"),(zs "mods"),(zs "at"),(zs "nid"),(zs "words"),(zs "asm"),(zs "fns"),(zs "vars"),(zs "of_mid"),(zs "diags"),(zs "inits"),(zs "sinits"),(zs "consts"),(zs "goes"),(zs "sames"),(zs "unders"),(zs "inners"),(zs "cx"),(zs "e"),(zs "node"),(zs "explicit"),(zs "convert"),(zs "turner"),(zs "unit"),(zs "kinds"),(zs "unmet"),(zs "told"),(zs "exprs"),(zs "stmts"),(zs "scopes"),(zs "closed"),(zs "fn"),(zs "mid"),(zs "static"),(zs "init"),(zs "checked"),(zs "free"),(zs "loops"),(zs "blocks"),(zs "tparams"),(zs "targets"),(zs "judge"),(zs "fitter"),(zs "keeper"),(zs "early"),(zs "deep"),(zs "notes"),(zs "fit"),(zs "table"),(zs "cv"),(zs "fault"),(zs "show"),(zs "m"),(zs "base"),(zs "up"),(zs "impls"),(zs "plain_one"),(zs "obj"),(zs "how"),(zs "mref"),(zs "goal"),(zs "fits"),(zs "getter"),(zs "setter"),(zs "one"),(zs "taken"),(zs "bases"),(zs "ifaces"),(zs "sorts"),(zs "variances"),(zs "news"),(zs "x"),(zs "n"),(zs "loose"),(zs "heir"),(zs "box"),(zs "face"),(zs "numbers"),(zs "firm"),(zs "other"),(zs "marked"),(zs "spots"),(zs "w"),(zs "spot"),(zs "ask"),(zs "given"),(zs "put_in"),(zs "know"),(zs "form"),(zs "parts"),(zs "lone"),(zs "ways"),(zs "mids"),(zs "refs"),(zs "adder"),(zs "remover"),(zs "stand"),(zs "mood"),(zs "way"),(zs "seat"),(zs "written"),(zs "got"),(zs "due"),(zs "script"),(zs "nums"),(zs "first"),(zs "pair"),(zs "asks")]
noncomputable def G:List (Str×GV):=[
 ((zs "ARRAY_TID"),.val (I 5)),
 ((zs "A_PUBLIC"),.val (I 6)),
 ((zs "BAD"),.val (I 15)),
 ((zs "BOOL"),.val (I 1)),
 ((zs "BareHost"),.cls 11),
 ((zs "CV_NULL"),.val (I 8)),
 ((zs "CV_REF"),.val (I 2)),
 ((zs "DEEPEST_KIND"),.val (I 24)),
 ((zs "Diags"),.cls 4),
 ((zs "FF_INITONLY"),.val (I 2)),
 ((zs "FF_LITERAL"),.val (I 4)),
 ((zs "FF_STATIC"),.val (I 1)),
 ((zs "FieldDef"),.cls 1),
 ((zs "Fitter"),.cls 8),
 ((zs "GB_CLASS"),.val (I 1)),
 ((zs "GH_BASE"),.val (I 4)),
 ((zs "GH_BOTH"),.val (I 5)),
 ((zs "GH_OBJ"),.val (I 3)),
 ((zs "GH_THIS"),.val (I 1)),
 ((zs "GH_TYPE"),.val (I 2)),
 ((zs "G_EVENT"),.val (I 102)),
 ((zs "G_GROUP"),.val (I 101)),
 ((zs "HEAVIEST_KIND"),.val (I 4096)),
 ((zs "I4"),.val (I 7)),
 ((zs "Judge"),.cls 6),
 ((zs "Keeper"),.cls 9),
 ((zs "KindTable"),.cls 0),
 ((zs "MB_EVENT"),.val (I 3)),
 ((zs "MB_FIELD"),.val (I 1)),
 ((zs "MB_GROUP"),.val (I 4)),
 ((zs "MB_HIDDEN"),.val (I 5)),
 ((zs "MB_PROP"),.val (I 2)),
 ((zs "MB_TWO"),.val (I 6)),
 ((zs "MF_ABSTRACT"),.val (I 8)),
 ((zs "MF_NEWSLOT"),.val (I 4)),
 ((zs "MF_STATIC"),.val (I 1)),
 ((zs "MF_VIRTUAL"),.val (I 2)),
 ((zs "NINT"),.val (I 11)),
 ((zs "NULLK"),.val (I 14)),
 ((zs "N_LIST"),.val (I 110)),
 ((zs "N_NAME"),.val (I 7)),
 ((zs "Node"),.cls 3),
 ((zs "OBJECT"),.val (I 12)),
 ((zs "PRIM_END"),.val (I 16)),
 ((zs "PRIM_TID"),.val (.obj 0)),
 ((zs "R_ARRAY"),.val (I 4)),
 ((zs "R_BOXED"),.val (I 8)),
 ((zs "R_BYREF"),.val (I 5)),
 ((zs "R_CLASS"),.val (I 2)),
 ((zs "R_FTN"),.val (I 10)),
 ((zs "R_MVAR"),.val (I 7)),
 ((zs "R_PRIM"),.val (I 1)),
 ((zs "R_RAW"),.val (I 11)),
 ((zs "R_ROREF"),.val (I 9)),
 ((zs "R_VALUE"),.val (I 3)),
 ((zs "R_VAR"),.val (I 6)),
 ((zs "STRING"),.val (I 13)),
 ((zs "S_CLASS"),.val (I 1)),
 ((zs "S_IFACE"),.val (I 3)),
 ((zs "S_STRUCT"),.val (I 2)),
 ((zs "Seat"),.cls 10),
 ((zs "Store"),.cls 2),
 ((zs "TID_PRIM"),.val (.obj 1)),
 ((zs "Turner"),.cls 7),
 ((zs "Unit"),.cls 5),
 ((zs "VALUE_ROOTS"),.val (.tup [I 1,I 2,I 3])),
 ((zs "VOID"),.val (I 0)),
 ((zs "X_CALL"),.val (I 8)),
 ((zs "X_CONST"),.val (I 1)),
 ((zs "X_CONV"),.val (I 19)),
 ((zs "X_FIELD"),.val (I 4)),
 ((zs "X_LOCAL"),.val (I 2)),
 ((zs "X_PROP"),.val (I 34)),
 ((zs "X_SFIELD"),.val (I 5)),
 ((zs "X_THIS"),.val (I 3)),
 ((zs "_law_FIRST"),.val (.tup [(.tup [I 3,I 1,I 2,I 0,I 0,I 0,I 0,I 0,I 3,I 0]),(.tup [I 4,I 0,I 2,I 0,I 0,I 0,I 1,I 0,I 0,I 0]),(.tup [I 5,I 0,I 2,I 0,I 0,I 0,I 1,I 0,I 0,I 0]),(.tup [I 0,I 0,I 2,I 0,I 0,I 0,I 1,I 0,I 0,I 0]),(.tup [I 1,I 1,I 2,I 0,I 0,I 2,I 1,I 0,I 3,I 0]),(.tup [I 2,I 2,I 2,I 0,I 0,I 1,I 1,I 0,I 0,I 0]),(.tup [I 2,I 1,I 0,I 0,I 0,I 2,I 0,I 0,I 0,I 0]),(.tup [I 2,I 1,I 0,I 1,I 1,I 0,I 1,I 0,I 3,I 0]),(.tup [I 2,I 0,I 0,I 1,I 1,I 0,I 3,I 0,I 0,I 0]),(.tup [I 2,I 2,I 0,I 0,I 2,I 0,I 1,I 0,I 0,I 0]),(.tup [I 2,I 1,I 0,I 2,I 0,I 1,I 3,I 0,I 6,I 0]),(.tup [I 2,I 0,I 0,I 3,I 0,I 0,I 6,I 3,I 0,I 0]),(.tup [I 2,I 3,I 0,I 0,I 1,I 0,I 1,I 0,I 0,I 0]),(.tup [I 0,I 0,I 0,I 0,I 1,I 0,I 1,I 0,I 0,I 1]),(.tup [I 0,I 0,I 0,I 3,I 0,I 1,I 5,I 0,I 0,I 1]),(.tup [I 0,I 2,I 0,I 2,I 2,I 0,I 1,I 0,I 7,I 1]),(.tup [I 0,I 4,I 0,I 1,I 1,I 0,I 2,I 2,I 0,I 0]),(.tup [I 1,I 0,I 0,I 3,I 0,I 0,I 1,I 1,I 0,I 0]),(.tup [I 1,I 4,I 0,I 0,I 1,I 0,I 7,I 0,I 0,I 1]),(.tup [I 1,I 1,I 0,I 0,I 2,I 0,I 0,I 0,I 4,I 0]),(.tup [I 3,I 3,I 1,I 0,I 2,I 0,I 2,I 3,I 0,I 0]),(.tup [I 4,I 1,I 0,I 0,I 0,I 0,I 0,I 0,I 3,I 0]),(.tup [I 1,I 0,I 0,I 3,I 0,I 0,I 1,I 1,I 0,I 1])])),
 ((zs "_law_RANGES"),.val (.tup [I 6,I 5,I 3,I 4,I 3,I 3,I 8,I 4,I 8,I 2])),
 ((zs "_law_accessor"),.fn 62),
 ((zs "_law_asked"),.fn 74),
 ((zs "_law_called"),.fn 72),
 ((zs "_law_digits"),.fn 60),
 ((zs "_law_due"),.fn 73),
 ((zs "_law_event"),.fn 65),
 ((zs "_law_field"),.fn 63),
 ((zs "_law_found"),.fn 66),
 ((zs "_law_given"),.fn 68),
 ((zs "_law_lost"),.fn 69),
 ((zs "_law_prop"),.fn 64),
 ((zs "_law_spot"),.fn 67),
 ((zs "_law_this"),.fn 70),
 ((zs "_law_turned"),.fn 71),
 ((zs "_law_world"),.fn 61),
 ((zs "accessor_ref"),.fn 54),
 ((zs "args_of"),.fn 15),
 ((zs "at_of"),.fn 44),
 ((zs "bad"),.fn 41),
 ((zs "base_accessor"),.fn 999),
 ((zs "base_chain"),.fn 999),
 ((zs "bound_kinds"),.fn 27),
 ((zs "box_of"),.fn 999),
 ((zs "call_receiver"),.fn 51),
 ((zs "check_args"),.fn 8),
 ((zs "check_kind_row"),.fn 6),
 ((zs "check_named"),.fn 7),
 ((zs "class_kind"),.fn 10),
 ((zs "close"),.fn 19),
 ((zs "close_in"),.fn 20),
 ((zs "const_field"),.fn 52),
 ((zs "field_kind"),.fn 26),
 ((zs "has_slot"),.fn 999),
 ((zs "inner_kinds"),.fn 3),
 ((zs "is_bad"),.fn 43),
 ((zs "is_iface"),.fn 29),
 ((zs "is_override"),.fn 46),
 ((zs "is_ref"),.fn 17),
 ((zs "is_value"),.fn 16),
 ((zs "is_var"),.fn 18),
 ((zs "kind_sort"),.fn 13),
 ((zs "kind_with"),.fn 999),
 ((zs "len"),.bi 0),
 ((zs "list"),.bi 3),
 ((zs "may_stand"),.fn 9),
 ((zs "nearest_override"),.fn 999),
 ((zs "need_obj"),.fn 50),
 ((zs "pick_arg"),.fn 22),
 ((zs "prim_kind"),.fn 999),
 ((zs "prop_mid"),.fn 47),
 ((zs "range"),.bi 4),
 ((zs "raw_field"),.fn 53),
 ((zs "raw_found"),.fn 56),
 ((zs "raw_prop"),.fn 55),
 ((zs "row_length"),.fn 5),
 ((zs "row_level"),.fn 4),
 ((zs "self_kind"),.fn 25),
 ((zs "str"),.bi 1),
 ((zs "surely_class"),.fn 28),
 ((zs "tell_fault"),.fn 45),
 ((zs "this_expr"),.fn 49),
 ((zs "through_kind"),.fn 48),
 ((zs "tid_of"),.fn 14),
 ((zs "tuple"),.bi 2),
 ((zs "turn_by_rows"),.fn 42),
 ((zs "type_of"),.fn 999),
 ((zs "value_kind"),.fn 11),
 ((zs "var_kind"),.fn 12),
 ((zs "with_inner"),.fn 21)]
noncomputable def C:List Cls:=[
 ⟨[(5,1),(25,2)],(some 0),248⟩,
 ⟨[],(some 23),68182605824⟩,
 ⟨[],(some 24),4329327296512⟩,
 ⟨[],(some 30),558446358088908800⟩,
 ⟨[(25,32)],(some 31),8⟩,
 ⟨[],(some 33),293994988072792489984⟩,
 ⟨[],none,0⟩,
 ⟨[(79,35)],(some 34),4427218577690292387840⟩,
 ⟨[(105,36)],none,0⟩,
 ⟨[],none,0⟩,
 ⟨[(119,39),(108,40),(109,37)],(some 38),5070602249816934080129886584840⟩,
 ⟨[(111,58),(20,59)],(some 57),82412135738664785300641169253675040768⟩]
noncomputable def Jfw:List (D×D):=[((I 0),I 20),((I 1),I 9),((I 2),I 10),((I 3),I 11),((I 4),I 12),((I 5),I 13),((I 6),I 14),((I 7),I 15),((I 8),I 16),((I 9),I 17),((I 10),I 18),((I 11),I 19),((I 12),I 1),((I 13),I 4)]
noncomputable def Jfp:List (D×D):=[((I 20),I 0),((I 9),I 1),((I 10),I 2),((I 11),I 3),((I 12),I 4),((I 13),I 5),((I 14),I 6),((I 15),I 7),((I 16),I 8),((I 17),I 9),((I 18),I 10),((I 19),I 11),((I 1),I 12),((I 4),I 13)]
noncomputable def prog:List Stmt:=PySem.Challenge.pw_xw0093_01.main.body
theorem Jaw (a b:Nat):Nat.beq a b=decide (a=b):=BT.beq_eq a b
theorem lEq_iff:∀ {x y:List Nat},lEq x y=true↔x=y:=Fast.lEq_iff
theorem JbB {a b:Str}:sEq a b=true↔a=b:=by
 unfold sEq;rw[lEq_iff];constructor
 · intro h; cases a; cases b; simp only[Str.mk.injEq]; exact Array.toList_inj.mp h
 · rintro rfl; rfl
theorem Jbl {a b:Str}(h:sEq a b=true):a=b:=JbB.mp h
theorem JmB {a b:Str}(h:sEq a b=false):a≠b:=fun e=>by rw[JbB.mpr e] at h; cases h
section
variable {α:Type}
theorem JJ (k:Nat)(x:α)(r:List (Nat×α))(j:Nat):lkp ((k,x)::r) j=if k=j then some x else lkp r j:=by
 show @Bool.rec (fun _=>Option α) (lkp r j) (some x) (Nat.beq k j)=_;rw[Jaw];by_cases h:k=j <;> simp[h]
theorem JG:∀ (l:List α) (n:Nat),Js l n=l[n]?
 | [],_=>rfl
 | x::r,0=>rfl
 | x::r,n+1=>by
  show @Bool.rec (fun _=>Option α) (Js r n) (some x) (Nat.beq (n+1) 0)=_;rw[JG r n]; rfl
theorem JfB:∀ (l:List α) (n:Nat) (y:α),Jkq l n y=l.set n y
 | [],_,_=>rfl
 | x::r,0,y=>rfl
 | x::r,n+1,y=>by
  show x::Jkq r n y=_;rw[JfB r n y]; rfl
theorem Jg1 {β:Type}{f:α→Option β}{v:α}{vs:List α}{r:List β}(h:Jeh f (v::vs)=some r):∃ x l,f v=some x∧Jeh f vs=some l∧r=x::l:=by
 have h:@Option.rec β (fun _=>Option (List β)) none (fun x=>@Option.rec (List β) (fun _=>Option (List β)) none (fun r=>some (x::r)) (Jeh f vs)) (f v)=some r:=h
 cases e:f v with
 | none=>rw[e] at h; cases h
 | some x =>
  rw[e] at h
  cases e':Jeh f vs with
  | none=>rw[e'] at h; cases h
  | some l=>rw[e'] at h; cases h; exact⟨x,l,rfl,rfl,rfl⟩
theorem Jn {f:α→Bool}:∀ {l:List α},Jw f l=true→∀ x∈l,f x=true
 | [],_,_,hx=>nomatch hx
 | y::r,h,x,hx=>by
  have h:@Bool.rec (fun _=>Bool) false (Jw f r) (f y)=true:=h
  cases e:f y with
  | false=>rw[e] at h; cases h
  | true =>
   rw[e] at h
   cases hx with
   | head=>exact e
   | tail _ m=>exact Jn h x m
end
theorem JmY (l:Loc)(x:Nat)(d:D)(y:Nat):lkp (putL l x d) y=if x=y then some d else lkp l y:=by
 induction l with
 | nil=>exact JJ x d [] y
 | cons p r ih =>
  obtain⟨k,v⟩:=p;have e:putL ((k,v)::r) x d=if k=x then (k,d)::r else (k,v)::putL r x d:=by
   show @Bool.rec (fun _=>Loc) ((k,v)::putL r x d) ((k,d)::r) (Nat.beq k x)=_;rw[Jaw];by_cases h:k=x <;> simp[h]
  rw[e];by_cases h:k=x
  · subst h;rw[if_pos rfl,JJ,JJ];by_cases q:k=y <;> simp[q]
  · rw[if_neg h,JJ,ih,JJ];by_cases q:k=y
    · subst q;have:x≠k:=fun z=>h z.symm;simp[this]
    · simp[q]
theorem Tr.get_node (v:Jo)(l r:Tr)(i:Nat):(Tr.node v l r).get i=if i=0 then some v else if i % 2=1 then l.get (i / 2) else r.get (i / 2 - 1):=by
 show @Bool.rec (fun _=>Option Jo) (@Bool.rec (fun _=>Option Jo) (r.get (i / 2 - 1)) (l.get (i / 2)) (Nat.beq (i % 2) 1)) (some v) (Nat.beq i 0)=_;rw[Jaw,Jaw];by_cases h:i=0
 · simp[h]
 · by_cases q:i % 2=1 <;> simp[h,q]
theorem Tr.put_node (v:Jo)(l r:Tr)(i:Nat)(o:Jo):(Tr.node v l r).put i o=if i=0 then .node o l r else if i % 2=1 then .node v (l.put (i / 2) o) r else .node v l (r.put (i / 2 - 1) o):=by
 show @Bool.rec (fun _=>Tr) (@Bool.rec (fun _=>Tr) (.node v l (r.put (i / 2 - 1) o)) (.node v (l.put (i / 2) o) r) (Nat.beq (i % 2) 1)) (.node o l r) (Nat.beq i 0)=_;rw[Jaw,Jaw];by_cases h:i=0
 · simp[h]
 · by_cases q:i % 2=1 <;> simp[h,q]
theorem Tr.get_nil (i:Nat):Tr.nil.get i=none:=rfl
inductive E1 {α:Type}(P Q:α→Prop):Prop where
 | mk (a:α) (p:P a) (q:Q a)
inductive E13 {α:Type}(P Q R:α→Prop):Prop where
 | mk (a:α) (p:P a) (q:Q a) (r:R a)
inductive E2 {α β:Type}(P Q R:α→β→Prop):Prop where
 | mk (a:α) (b:β) (p:P a b) (q:Q a b) (r:R a b)
inductive E24 {α β:Type}(P Q R S:α→β→Prop):Prop where
 | mk (a:α) (b:β) (p:P a b) (q:Q a b) (r:R a b) (s:S a b)
inductive E34 {α β γ:Type}(P Q R S:α→β→γ→Prop):Prop where
 | mk (a:α) (b:β) (c:γ) (p:P a b c) (q:Q a b c) (r:R a b c) (s:S a b c)
inductive E44 {α β γ δ:Type}(P Q R S:α→β→γ→δ→Prop):Prop where
 | mk (a:α) (b:β) (c:γ) (d:δ) (p:P a b c d) (q:Q a b c d) (r:R a b c d) (s:S a b c d)
inductive E45 {α β γ δ:Type}(P Q R S T:α→β→γ→δ→Prop):Prop where
 | mk (a:α) (b:β) (c:γ) (d:δ) (p:P a b c d) (q:Q a b c d) (r:R a b c d) (s:S a b c d) (t:T a b c d)
theorem odO {β:Type}{o:Option (D)}{A:D→Option β}{r:β}(h:(match o with | some x=>A x | none=>none)=some r):E1 (fun x=>o=some x) fun x=>A x=some r:=by
 cases o with
 | none=>cases h
 | some x=>exact⟨x,rfl,h⟩
theorem odT {o:Option (D)}{A:D→Bool}(h:(match o with | some x=>A x | none=>false)=true):E1 (fun x=>o=some x) fun x=>A x=true:=by
 cases o with
 | none=>cases h
 | some x=>exact⟨x,rfl,h⟩
theorem onO {β:Type}{o:Option (Nat)}{A:Nat→Option β}{r:β}(h:(match o with | some x=>A x | none=>none)=some r):E1 (fun x=>o=some x) fun x=>A x=some r:=by
 cases o with
 | none=>cases h
 | some x=>exact⟨x,rfl,h⟩
theorem onT {o:Option (Nat)}{A:Nat→Bool}(h:(match o with | some x=>A x | none=>false)=true):E1 (fun x=>o=some x) fun x=>A x=true:=by
 cases o with
 | none=>cases h
 | some x=>exact⟨x,rfl,h⟩
theorem obO {β:Type}{o:Option (Bool)}{A:Bool→Option β}{r:β}(h:(match o with | some x=>A x | none=>none)=some r):E1 (fun x=>o=some x) fun x=>A x=some r:=by
 cases o with
 | none=>cases h
 | some x=>exact⟨x,rfl,h⟩
theorem obT {o:Option (Bool)}{A:Bool→Bool}(h:(match o with | some x=>A x | none=>false)=true):E1 (fun x=>o=some x) fun x=>A x=true:=by
 cases o with
 | none=>cases h
 | some x=>exact⟨x,rfl,h⟩
theorem olO {β:Type}{o:Option (List D)}{A:List D→Option β}{r:β}(h:(match o with | some x=>A x | none=>none)=some r):E1 (fun x=>o=some x) fun x=>A x=some r:=by
 cases o with
 | none=>cases h
 | some x=>exact⟨x,rfl,h⟩
theorem olT {o:Option (List D)}{A:List D→Bool}(h:(match o with | some x=>A x | none=>false)=true):E1 (fun x=>o=some x) fun x=>A x=true:=by
 cases o with
 | none=>cases h
 | some x=>exact⟨x,rfl,h⟩
theorem otO {β:Type}{o:Option (List (Nat×D))}{A:List (Nat×D)→Option β}{r:β}(h:(match o with | some x=>A x | none=>none)=some r):E1 (fun x=>o=some x) fun x=>A x=some r:=by
 cases o with
 | none=>cases h
 | some x=>exact⟨x,rfl,h⟩
theorem ooO {β:Type}{o:Option (Jo)}{A:Jo→Option β}{r:β}(h:(match o with | some x=>A x | none=>none)=some r):E1 (fun x=>o=some x) fun x=>A x=some r:=by
 cases o with
 | none=>cases h
 | some x=>exact⟨x,rfl,h⟩
theorem ooT {o:Option (Jo)}{A:Jo→Bool}(h:(match o with | some x=>A x | none=>false)=true):E1 (fun x=>o=some x) fun x=>A x=true:=by
 cases o with
 | none=>cases h
 | some x=>exact⟨x,rfl,h⟩
theorem ocT {o:Option Cls}{A:Cls→Bool}(h:(match o with | some x=>A x | none=>false)=true):E1 (fun x=>o=some x) fun x=>A x=true:=by
 cases o with
 | none=>cases h
 | some x=>exact⟨x,rfl,h⟩
theorem bm {α:Type}{b:Bool}{A B r:α}(h:(match b with | true=>A | false=>B)=r):(b=true∧A=r)∨(b=false∧B=r):=by
 cases b
 · exact .inr ⟨rfl,h⟩
 · exact .inl ⟨rfl,h⟩
theorem bmT {b A:Bool}(h:(match b with | true=>A | false=>false)=true):b=true∧A=true:=by
 cases b
 · cases h
 · exact⟨rfl,h⟩
theorem bmO {α:Type}{b:Bool}{A:Option α}{r:α}(h:(match b with | true=>A | false=>none)=some r):b=true∧A=some r:=by
 cases b
 · cases h
 · exact⟨rfl,h⟩
theorem lsT {o:Option Jo}{A:List D→Bool}(h:(match o with | some (.list 0 l)=>A l | _=>false)=true):E1 (fun l=>o=some (.list 0 l)) fun l=>A l=true:=by
 cases o with
 | none=>cases h
 | some x =>
  cases x with
  | list t l =>
   cases t with
   | zero=>exact⟨l,rfl,h⟩
   | succ _=>cases h
  | _=>cases h
theorem lsO {β:Type}{o:Option Jo}{A:List D→Option β}{r:β}(h:(match o with | some (.list 0 l)=>A l | _=>none)=some r):E1 (fun l=>o=some (.list 0 l)) fun l=>A l=some r:=by
 cases o with
 | none=>cases h
 | some x =>
  cases x with
  | list t l =>
   cases t with
   | zero=>exact⟨l,rfl,h⟩
   | succ _=>cases h
  | _=>cases h
theorem ob3 {α:Type}{o:Option Bool}{A B C r:α}(h:(match o with | some true=>A | some false=>B | none=>C)=r):(o=some true∧A=r)∨(o=some false∧B=r)∨(o=none∧C=r):=by
 cases o with
 | none=>exact .inr (.inr ⟨rfl,h⟩)
 | some b =>
  cases b
  · exact .inr (.inl ⟨rfl,h⟩)
  · exact .inl ⟨rfl,h⟩
theorem lgO {β:Type}{o:Option Jo}{A:Nat→List D→Option β}{r:β}(h:(match o with | some (.list t l)=>A t l | _=>none)=some r):E2 (fun t l=>o=some (.list t l)) (fun t l=>A t l=some r) fun _ _=>True:=by
 cases o with
 | none=>cases h
 | some x =>
  cases x with
  | list t l=>exact⟨t,l,rfl,h,trivial⟩
  | _=>cases h
theorem lgT {o:Option Jo}{A:Nat→List D→Bool}(h:(match o with | some (.list t l)=>A t l | _=>false)=true):E2 (fun t l=>o=some (.list t l)) (fun t l=>A t l=true) fun _ _=>True:=by
 cases o with
 | none=>cases h
 | some x =>
  cases x with
  | list t l=>exact⟨t,l,rfl,h,trivial⟩
  | _=>cases h
theorem Jf {p:Prop}(h:(p→False)→False):p:=Classical.byContradiction h
theorem ff {p:Prop}(h:false=true):p:=by cases h
theorem fo {α:Type}{a:α}{p:Prop}(h:none=some a):p:=by cases h
theorem Jp {α:Type}{a b:α}(h:some a=some b):a=b:=Option.some.inj h
theorem sjt {α:Type}{x:Option α}{a b:α}(h:x=some a)(k:x=some b):a=b:=Option.some.inj (h.symm.trans k)
theorem tri (i:Nat):i=0∨(∃ j,i=2*j+1)∨∃ j,i=2*j+2:=by
 cases i with
 | zero=>exact .inl rfl
 | succ i =>
  rcases Nat.mod_two_eq_zero_or_one i with h | h
  · exact .inr (.inl ⟨i / 2,congrArg Nat.succ (by rw[← Nat.div_add_mod i 2,h]; simp)⟩)
  · exact .inr (.inr ⟨i / 2,congrArg Nat.succ (by have:=Nat.div_add_mod i 2; rw[h] at this; exact this.symm)⟩)
theorem tr1 (j:Nat):(2*j+1) / 2=j:=by omega
theorem tr2 (j:Nat):(2*j+2) / 2=j+1:=by omega
theorem tr3 (j:Nat):(2*j+1) % 2=1:=by omega
theorem tr4 (j:Nat):(2*j+2) % 2=0:=by omega
section
variable {v:Jo}{l r:Tr}{o:Jo}{j:Nat}
theorem JaH:(Tr.node v l r).get (2*j+1)=l.get j:=by rw[Tr.get_node,if_neg (Nat.succ_ne_zero _),if_pos (tr3 j),tr1]
theorem JaI:(Tr.node v l r).get (2*j+2)=r.get j:=by rw[Tr.get_node,if_neg (Nat.succ_ne_zero _),if_neg (by rw[tr4]; decide),tr2]; rfl
theorem JoP:(Tr.node v l r).put 0 o=.node o l r:=rfl
theorem JdR:(Tr.node v l r).put (2*j+1) o=.node v (l.put j o) r:=by rw[Tr.put_node,if_neg (Nat.succ_ne_zero _),if_pos (tr3 j),tr1]
theorem JdF:(Tr.node v l r).put (2*j+2) o=.node v l (r.put j o):=by rw[Tr.put_node,if_neg (Nat.succ_ne_zero _),if_neg (by rw[tr4]; decide),tr2]; rfl
theorem JFa {i j:Nat}(h:2*i+1=2*j+1):i=j:=Nat.eq_of_mul_eq_mul_left (by decide) (Nat.succ.inj h)
theorem JEX {i j:Nat}(h:2*i+2=2*j+2):i=j:=Nat.eq_of_mul_eq_mul_left (by decide) (Nat.succ.inj (Nat.succ.inj h))
theorem JoL {i j:Nat}(h:2*i+1=2*j+2):False:=by
 have:=congrArg (· % 2) h;simp only[tr3,tr4] at this
 cases this
theorem Tr.get_put_ne (o:Jo):∀ (t:Tr) (a i:Nat),i≠a→(t.get a).isSome=true→(t.put a o).get i=t.get i
 | .nil,a,i,_,h=>by rw[Tr.get_nil] at h; cases h
 | .node v l r,a,i,ne,h=>by
  rcases tri a with rfl | ⟨b,rfl⟩ | ⟨b,rfl⟩ <;> rcases tri i with rfl | ⟨k,rfl⟩ | ⟨k,rfl⟩
  · exact absurd rfl ne
  · rw[JoP,JaH,JaH]
  · rw[JoP,JaI,JaI]
  · rw[JdR]; rfl
  · rw[JdR,JaH,JaH];rw[JaH] at h;exact Tr.get_put_ne o l _ _ (fun q=>ne (by rw[q])) h
  · rw[JdR,JaI,JaI]
  · rw[JdF]; rfl
  · rw[JdF,JaH,JaH]
  · rw[JdF,JaI,JaI];rw[JaI] at h;exact Tr.get_put_ne o r _ _ (fun q=>ne (by rw[q])) h
theorem Tr.get_put_self (o:Jo):∀ (t:Tr) (a:Nat),(t.get a).isSome=true→(t.put a o).get a=some o
 | .nil,a,h=>by rw[Tr.get_nil] at h; cases h
 | .node v l r,a,h=>by
  rcases tri a with rfl | ⟨b,rfl⟩ | ⟨b,rfl⟩
  · rfl
  · rw[JdR,JaH];rw[JaH] at h;exact Tr.get_put_self o l _ h
  · rw[JdF,JaI];rw[JaI] at h;exact Tr.get_put_self o r _ h
end
noncomputable def JD:Tr→Nat→Prop
 | .nil,n=>n=0
 | .node _ l r,n=>1≤n∧JD l (n / 2)∧JD r ((n - 1) / 2)
section
variable {v:Jo}{l r:Tr}{j:Nat}
theorem Jie:JD (.node v l r) (2*j+1)↔JD l j∧JD r j:=by
 show (_∧JD l ((2*j+1) / 2)∧JD r ((2*j) / 2))↔_;rw[tr1,Nat.mul_div_cancel_left j (by decide)];exact⟨fun h=>h.2,fun h=>⟨Nat.succ_le_succ (Nat.zero_le _),h⟩⟩
theorem JhM:JD (.node v l r) (2*j+2)↔JD l (j+1)∧JD r j:=by
 show (_∧JD l ((2*j+2) / 2)∧JD r ((2*j+1) / 2))↔_;rw[tr1,tr2];exact⟨fun h=>h.2,fun h=>⟨Nat.succ_le_succ (Nat.zero_le _),h⟩⟩
theorem JoV {i j:Nat}:2*i+1<2*j+1↔i<j:=by rw[Nat.add_lt_add_iff_right,Nat.mul_lt_mul_left (by decide)]
theorem Jnn {i j:Nat}:2*i+1<2*j+2↔i<j+1:=by omega
theorem JnH {i j:Nat}:2*i+2<2*j+1↔i<j:=by omega
theorem Jnf {i j:Nat}:2*i+2<2*j+2↔i<j:=by rw[Nat.add_lt_add_iff_right,Nat.mul_lt_mul_left (by decide)]
end
theorem JD.some_iff:∀ {t:Tr}{n:Nat},JD t n→∀ i,(t.get i).isSome=true↔i<n
 | .nil,n,h,i=>by
  have h:n=0:=h;subst h;rw[Tr.get_nil]; exact⟨fun h=>(by cases h),fun h=>absurd h (Nat.not_lt_zero _)⟩
 | .node v l r,n,h,i=>by
  rcases tri n with rfl | ⟨m,rfl⟩ | ⟨m,rfl⟩
  · exact absurd h.1 (by decide)
  · obtain⟨hl,hr⟩:=Jie.mp h;rcases tri i with rfl | ⟨k,rfl⟩ | ⟨k,rfl⟩
    · exact⟨fun _=>Nat.succ_pos _,fun _=>rfl⟩
    · rw[JaH,JoV]; exact JD.some_iff hl k
    · rw[JaI,JnH]; exact JD.some_iff hr k
  · obtain⟨hl,hr⟩:=JhM.mp h;rcases tri i with rfl | ⟨k,rfl⟩ | ⟨k,rfl⟩
    · exact⟨fun _=>Nat.succ_pos _,fun _=>rfl⟩
    · rw[JaH,Jnn]; exact JD.some_iff hl k
    · rw[JaI,Jnf]; exact JD.some_iff hr k
theorem JD.put_old (o:Jo):∀ {t:Tr}{n:Nat}{i:Nat},JD t n→i<n→JD (t.put i o) n
 | .nil,n,i,h,q=>by have h:n=0:=h; rw[h] at q; exact absurd q (Nat.not_lt_zero _)
 | .node v l r,n,i,h,q=>by
  rcases tri i with rfl | ⟨k,rfl⟩ | ⟨k,rfl⟩
  · exact h
  all_goals rcases tri n with rfl | ⟨m,rfl⟩ | ⟨m,rfl⟩
  · exact absurd h.1 (by decide)
  · rw[JdR]; exact Jie.mpr ⟨JD.put_old o (Jie.mp h).1 (JoV.mp q),(Jie.mp h).2⟩
  · rw[JdR]; exact JhM.mpr ⟨JD.put_old o (JhM.mp h).1 (Jnn.mp q),(JhM.mp h).2⟩
  · exact absurd h.1 (by decide)
  · rw[JdF]; exact Jie.mpr ⟨(Jie.mp h).1,JD.put_old o (Jie.mp h).2 (JnH.mp q)⟩
  · rw[JdF]; exact JhM.mpr ⟨(JhM.mp h).1,JD.put_old o (JhM.mp h).2 (Jnf.mp q)⟩
theorem JnR {α:Type}{p q:Prop}[Decidable p][Decidable q](h:p↔q)(a b:α):(if p then a else b)=if q then a else b:=by
 by_cases x:p
 · rw[if_pos x,if_pos (h.mp x)]
 · rw[if_neg x,if_neg fun y=>x (h.mpr y)]
theorem JD.put_new (o:Jo):∀ {t:Tr}{n:Nat},JD t n→JD (t.put n o) (n+1)∧∀ i,(t.put n o).get i=if i=n then some o else t.get i
 | .nil,n,h=>by
  have h:n=0:=h;subst h;refine⟨⟨Nat.le_refl _,rfl,rfl⟩,fun i=>?_⟩;rcases tri i with rfl | ⟨k,rfl⟩ | ⟨k,rfl⟩
  · rfl
  · show (Tr.node o .nil .nil).get _=_;rw[JaH,if_neg (Nat.succ_ne_zero _)]; rfl
  · show (Tr.node o .nil .nil).get _=_;rw[JaI,if_neg (Nat.succ_ne_zero _)]; rfl
 | .node v l r,n,h=>by
  rcases tri n with rfl | ⟨m,rfl⟩ | ⟨m,rfl⟩
  · exact absurd h.1 (by decide)
  · obtain⟨hl,hr⟩:=Jie.mp h;have z:=JD.put_new o hl;rw[JdR];refine⟨JhM.mpr ⟨z.1,hr⟩,fun i=>?_⟩;rcases tri i with rfl | ⟨k,rfl⟩ | ⟨k,rfl⟩
    · rw[if_neg (Nat.succ_ne_zero _).symm]; rfl
    · rw[JaH,JaH,z.2];exact JnR ⟨fun q=>by rw[q],JFa⟩ _ _
    · rw[JaI,JaI,if_neg fun q=>JoL q.symm]
  · obtain⟨hl,hr⟩:=JhM.mp h;have z:=JD.put_new o hr;rw[JdF];refine⟨(Jie (j:=m+1)).mpr ⟨hl,z.1⟩,fun i=>?_⟩;rcases tri i with rfl | ⟨k,rfl⟩ | ⟨k,rfl⟩
    · rw[if_neg (Nat.succ_ne_zero _).symm]; rfl
    · rw[JaH,JaH,if_neg fun q=>JoL q]
    · rw[JaI,JaI,z.2];exact JnR ⟨fun q=>by rw[q],JEX⟩ _ _
structure Vl where
 iv:Nat→Int
 sv:Nat→Str
 dg:Nat→Nat
 pre:Nat→List PyData
 ov:Nat→Value
 fz:Addr→Option Obj
noncomputable def IE.val (ν:Vl):IE→Int
 | .lit i=>i
 | .var t o=>ν.iv t+o
 | .op k a b=>match k with
  | 0=>a.val ν+b.val ν
  | 2=>a.val ν*b.val ν
  | 3=>Int.fdiv (a.val ν) (b.val ν)
  | _=>Int.fmod (a.val ν) (b.val ν)
noncomputable def SE.val (ν:Vl):SE→Str
 | .lit s=>s
 | .var t=>ν.sv t
 | .cat a b=>a.val ν++b.val ν
 | .ofInt e=>Str.ofString (toString (e.val ν))
noncomputable def Je (ν:Vl)(ad:List Addr)(h:Heap):D→Value→Prop
 | .none,v=>v=.none
 | .bool b,v=>v=.bool b
 | .int e,v=>∃ t,v=.int (e.val ν) t
 | .str s,v=>(∃ t,v=.str (s.val ν) t)∧PyData.strOk (s.val ν)=true
 | .tup l,v=>E2 (fun (a:Addr) (items:Array Value)=>v=.ref a) (fun a items=>h.IsTuple a items) (fun _ items=>goL ν ad h l items.toList)
 | .obj i,v=>E1 (fun (a:Addr)=>ad[i]?=some a) (fun a=>v=.ref a)
 | .tab j l,v=>goR ν ad h (ν.dg j) l v
 | .opq t,v=>v=ν.ov t
where
 goL (ν:Vl) (ad:List Addr) (h:Heap):List D→List Value→Prop
  | [],vs=>vs=[]
  | d::l,vs=>E2 (fun (v:Value) (r:List Value)=>vs=v::r) (fun v _=>Je ν ad h d v) (fun _ r=>goL ν ad h l r)
 goR (ν:Vl) (ad:List Addr) (h:Heap) (u:Nat):List (Nat×D)→Value→Prop
  | [],_=>False
  | (k,d)::r,v=>(k=u∧Je ν ad h d v)∨(k≠u∧goR ν ad h u r v)
noncomputable def JC (h h':Heap):Prop:=∀ a o,h.get? a=some o→(o.cls=.type "tuple"∧∃ xs n,o.data=.seq xs n)→h'.get? a=some o
theorem JC.refl (h:Heap):JC h h:=fun _ _ e _=>e
theorem JC.trans {h h' h'':Heap}(x:JC h h')(y:JC h' h''):JC h h'':=fun a o e c=>y a o (x a o e c) c
theorem JC.tuple {h h':Heap}(k:JC h h'){a:Addr}{items:Array Value}(x:h.IsTuple a items):h'.IsTuple a items:=by
 obtain⟨o,e,c,n,r⟩:=x;exact⟨o,k a o e ⟨c,_,n,r⟩,c,n,r⟩
noncomputable abbrev Pre (ad ad':List Addr):Prop:=∀ (i:Nat) (a:Addr),ad[i]?=some a→ad'[i]?=some a
section
variable {ν:Vl}{ad ad':List Addr}{h h':Heap}
mutual
theorem Je.mono (k:JC h h')(p:Pre ad ad'):∀ {d:D}{v:Value},Je ν ad h d v→Je ν ad' h' d v
 | .none,_,x=>x
 | .bool _,_,x=>x
 | .int _,_,x=>x
 | .str _,_,x=>x
 | .tup l,_,⟨a,items,e,t,r⟩=>⟨a,items,e,k.tuple t,Je.monoL k p r⟩
 | .obj i,_,⟨a,e,q⟩=>⟨a,p i a e,q⟩
 | .tab j l,_,x=>Je.monoR (l:=l) k p x
 | .opq _,_,x=>x
theorem Je.monoL (k:JC h h')(p:Pre ad ad'):∀ {l:List D}{vs:List Value},Je.goL ν ad h l vs→Je.goL ν ad' h' l vs
 | [],_,x=>x
 | d::l,_,⟨v,r,e,x,y⟩=>⟨v,r,e,Je.mono k p x,Je.monoL k p y⟩
theorem Je.monoR (k:JC h h')(p:Pre ad ad'):∀ {l:List (Nat×D)}{u:Nat}{v:Value},Je.goR ν ad h u l v→Je.goR ν ad' h' u l v
 | [],_,_,x=>x
 | (_,d)::l,_,_,.inl ⟨e,x⟩=>.inl ⟨e,Je.mono k p x⟩
 | (_,d)::l,_,_,.inr ⟨e,x⟩=>.inr ⟨e,Je.monoR k p x⟩
end
theorem JbA {l:List (Nat×D)}{u:Nat}{v:Value}:Je.goR ν ad h u l v↔∃ d,lkp l u=some d∧Je ν ad h d v:=by
 induction l with
 | nil=>exact⟨fun x=>x.elim,fun ⟨_,e,_⟩=>by cases e⟩
 | cons p r z =>
  obtain⟨k,d⟩:=p;rw[JJ];constructor
  · rintro (⟨e,x⟩ | ⟨e,x⟩)
    · exact⟨d,by rw[if_pos e],x⟩
    · rw[if_neg e]; exact z.mp x
  · rintro⟨d',e,x⟩;by_cases q:k=u
    · rw[if_pos q] at e; obtain rfl:=Jp e; exact .inl ⟨q,x⟩
    · rw[if_neg q] at e; exact .inr ⟨q,z.mpr ⟨d',e,x⟩⟩
end
structure JH where
 L:Addr
 cl:List (Str×Addr)
 sc:Scope
def Ja6 (ν:Vl)(ad:List Addr)(h:Heap)(f:JH)(loc:Loc):Prop :=
 E1 (fun (m:Str→Option Value)=>h.Ns f.L m) fun m=>∀ x nm d,Js NT x=some nm→lkp loc x=some d →
  (f.sc.names.lookup nm=some .local→∃ v,m nm=some v∧Je ν ad h d v) ∧
  (f.sc.names.lookup nm=some .cell∨f.sc.names.lookup nm=some .free→∃ c v,f.cl.lookup nm=some c∧h.IsCell c (some v)∧Je ν ad h d v)
def Jau (ν:Vl)(ad:List Addr)(h:Heap):List JH→List Loc→Prop
 | [],ls=>ls=[]
 | f::fs,ls=>E2 (fun (l:Loc) (r:List Loc)=>ls=l::r) (fun l _=>Ja6 ν ad h f l) (fun _ r=>Jau ν ad h fs r)
inductive IT where
 | int (i:Int)
 | tup (l:List IT)
noncomputable def IT.of (ν:Vl):D→Option IT
 | .int e=>some (.int (e.val ν))
 | .tup l=>match go ν l with | some l=>some (.tup l) | none=>none
 | _=>none
where go (ν:Vl):List D→Option (List IT)
 | []=>some []
 | d::l=>match IT.of ν d,go ν l with | some x,some r=>some (x::r) | _,_=>none
noncomputable def IT.py:IT→PyData
 | .int i=>.int i
 | .tup l=>.tuple (go l)
where go:List IT→List PyData
 | []=>[]
 | x::r=>IT.py x::go r
noncomputable def IT.depth:IT→Nat
 | .int _=>0
 | .tup l=>go l+1
where go:List IT→Nat
 | []=>0
 | x::r=>max (IT.depth x) (go r)
mutual
theorem IT.eqv:∀ x y:IT,PyData.eqv x.py y.py=true↔x=y
 | .int i,.int j=>⟨fun h=>congrArg _ (eq_of_beq h),fun h=>by cases h; exact beq_self_eq_true i⟩
 | .int i,.tup l=>⟨fun h=>ff h,fun h=>by cases h⟩
 | .tup l,.int j=>⟨fun h=>ff h,fun h=>by cases h⟩
 | .tup l,.tup r=>⟨fun h=>congrArg _ ((IT.eqvAll l r).mp h),fun h=>(IT.eqvAll l r).mpr (by cases h; rfl)⟩
theorem IT.eqvAll:∀ l r:List IT,PyData.eqvAll (IT.py.go l) (IT.py.go r)=true↔l=r
 | [],[]=>⟨fun _=>rfl,fun _=>rfl⟩
 | [],_::_=>⟨fun h=>ff h,fun h=>by cases h⟩
 | _::_,[]=>⟨fun h=>ff h,fun h=>by cases h⟩
 | x::l,y::r=>by
  refine⟨fun h=>?_,fun h=>?_⟩
  · obtain⟨h1,h2⟩:=(Bool.and_eq_true _ _).mp h;rw[(IT.eqv x y).mp h1,(IT.eqvAll l r).mp h2]
  · injection h with h1 h2;exact (Bool.and_eq_true _ _).mpr ⟨(IT.eqv x y).mpr h1,(IT.eqvAll l r).mpr h2⟩
end
noncomputable instance itDec:DecidableEq IT:=fun a b=>Classical.propDecidable (a=b)
theorem IT.eqv_decide (x y:IT):PyData.eqv x.py y.py=decide (x=y):=by
 rw[Bool.eq_iff_iff,IT.eqv,decide_eq_true_iff]
mutual
theorem IT.canLay:∀ x:IT,x.py.canLay0=true
 | .int _=>rfl
 | .tup l=>IT.canLayAll l
theorem IT.canLayAll:∀ l:List IT,PyData.canLayAll0 (IT.py.go l)=true
 | []=>rfl
 | x::r=>(Bool.and_eq_true _ _).mpr ⟨IT.canLay x,IT.canLayAll r⟩
end
mutual
theorem IT.depth_py:∀ x:IT,x.py.depth=x.depth
 | .int _=>rfl
 | .tup l=>congrArg (·+1) (IT.depthAll_py l)
theorem IT.depthAll_py:∀ l:List IT,PyData.depthAll (IT.py.go l)=IT.depth.go l
 | []=>rfl
 | x::r=>by
  show max x.py.depth (PyData.depthAll (IT.py.go r))=max x.depth (IT.depth.go r);rw[IT.depth_py x,IT.depthAll_py r]
end
noncomputable def J2 (h:Heap):IT→Value→Prop
 | .int i,v=>∃ t,v=.int i t
 | .tup l,v=>E2 (fun (a:Addr) (items:Array Value)=>v=.ref a) (fun a items=>h.IsTuple a items) (fun _ items=>go h l items.toList)
where go (h:Heap):List IT→List Value→Prop
 | [],vs=>vs=[]
 | x::l,vs=>E2 (fun (v:Value) (r:List Value)=>vs=v::r) (fun v _=>J2 h x v) (fun _ r=>go h l r)
mutual
theorem J2.reads {h:Heap}:∀ {x:IT}{v:Value},J2 h x v→Reads h v x.py []
 | .int i,_,⟨t,e⟩=>e ▸ .int i t
 | .tup l,_,⟨a,items,e,⟨o,ho,hc,n,hd⟩,r⟩=>by
  subst e;exact .tuple ho hc hd (J2.readsAll r)
theorem J2.readsAll {h:Heap}:∀ {l:List IT}{vs:List Value},J2.go h l vs→ReadsAll h vs (IT.py.go l) []
 | [],_,e=>by have e:_=[]:=e; subst e; exact .nil
 | x::l,_,⟨v,r,e,a,b⟩=>by
  subst e;exact ReadsAll.cons (as:=[]) (bs:=[]) (J2.reads a) (J2.readsAll b)
end
mutual
theorem J2.inj {h:Heap}:∀ {x y:IT}{v:Value},J2 h x v→J2 h y v→x=y
 | .int i,.int j,_,⟨t,e⟩,⟨u,e'⟩=>by rw[e] at e'; (injection e' with zz; subst zz); rfl
 | .int i,.tup l,_,⟨t,e⟩,⟨a,_,e',_,_⟩=>by rw[e] at e'; cases e'
 | .tup l,.int j,_,⟨a,_,e,_,_⟩,⟨u,e'⟩=>by rw[e] at e'; cases e'
 | .tup l,.tup r,_,⟨a,its,e,⟨o,ho,_,n,hd⟩,x⟩,⟨b,its',e',⟨o',ho',_,n',hd'⟩,y⟩=>by
  rw[e] at e'
  (injection e' with zz; subst zz)
  obtain rfl:o=o':=Jp (ho.symm.trans ho');rw[hd] at hd';injection hd' with h1 _;subst h1;rw[J2.injAll x y]
theorem J2.injAll {h:Heap}:∀ {l r:List IT}{vs:List Value},J2.go h l vs→J2.go h r vs→l=r
 | [],[],_,_,_=>rfl
 | [],_::_,_,e,⟨_,_,e',_,_⟩=>by have e:_=[]:=e; rw[e] at e'; cases e'
 | _::_,[],_,⟨_,_,e',_,_⟩,e=>by have e:_=[]:=e; rw[e] at e'; cases e'
 | x::l,y::r,_,⟨v,vs,e,a,b⟩,⟨v',vs',e',a',b'⟩=>by
  rw[e] at e'
  cases e'
  rw[J2.inj a a',J2.injAll b b']
end
mutual
theorem J2.mono {h h':Heap}(k:JC h h'):∀ {x:IT}{v:Value},J2 h x v→J2 h' x v
 | .int _,_,x=>x
 | .tup _,_,⟨a,its,e,t,r⟩=>⟨a,its,e,k.tuple t,J2.monoAll k r⟩
theorem J2.monoAll {h h':Heap}(k:JC h h'):∀ {l:List IT}{vs:List Value},J2.go h l vs→J2.go h' l vs
 | [],_,x=>x
 | _::_,_,⟨v,r,e,x,y⟩=>⟨v,r,e,J2.mono k x,J2.monoAll k y⟩
end
mutual
theorem J2.mono' {h h':Heap}(k:∀ a o,h.get? a=some o→(∃ n vs,o.data=.seq vs n)→h'.get? a=some o):∀ {x:IT}{v:Value},J2 h x v→J2 h' x v
 | .int _,_,x=>x
 | .tup _,_,⟨a,its,e,⟨o,ho,hc,n,hd⟩,r⟩=>⟨a,its,e,⟨o,k a o ho ⟨n,its,hd⟩,hc,n,hd⟩,J2.monoAll' k r⟩
theorem J2.monoAll' {h h':Heap}(k:∀ a o,h.get? a=some o→(∃ n vs,o.data=.seq vs n)→h'.get? a=some o):∀ {l:List IT}{vs:List Value},J2.go h l vs→J2.go h' l vs
 | [],_,x=>x
 | _::_,_,⟨v,r,e,x,y⟩=>⟨v,r,e,J2.mono' k x,J2.monoAll' k y⟩
end
noncomputable def IT.hash:IT→Int
 | .int i=>hashInt i
 | .tup l=>reduceHash (Builtin.Tuple.tupleHashOf (go l))
where go:List IT→List Int
 | []=>[]
 | x::r=>IT.hash x::go r
noncomputable def IT.draws:IT→Nat
 | .int _=>1
 | .tup l=>go l+1
where go:List IT→Nat
 | []=>0
 | x::r=>IT.draws x+go r
section
variable {prog:Program}{w:World}{E:Value→Shared→Prop}
theorem IT.depth_go {l:List IT}{x:IT}(h:x∈l):x.depth≤IT.depth.go l:=by
 induction l with
 | nil=>cases h
 | cons y r ih =>
  show x.depth≤max y.depth (IT.depth.go r);rcases List.mem_cons.mp h with rfl | h
  · exact Nat.le_max_left _ _
  · exact Nat.le_trans (ih h) (Nat.le_max_right _ _)
def Ji7 (prog:Program)(w:World)(x:IT)(A:Around):Prop :=
 ∀ (E:Value→Shared→Prop) (s:Shared) (v:Value) (Q:Int→Shared→Prop),J2 s.heap x v→Q x.hash { s with toks:=s.toks+x.draws }→wpAny (model prog w) A (pyHash v) Q E s
theorem JjR (A:Around):∀ (l:List IT),(∀ x∈l,Ji7 prog w x A)→∀ (s:Shared) (vs:List Value) (b:Array Int) (Q:Array Int→Shared→Prop),J2.go s.heap l vs →
  (∀ r:Array Int,r.toList=b.toList++IT.hash.go l→Q r { s with toks:=s.toks+IT.draws.go l }) →
  wpAny (model prog w) A (forIn vs b fun v r=>do let x ← pyHash v; pure (ForInStep.yield (r.push x))) Q E s
 | [],_,s,vs,b,Q,e,k=>by
  have e:vs=[]:=e;subst e;exact wpAny_pure (k b (List.append_nil _).symm)
 | x::l,H,s,vs,b,Q,⟨v,r,e,hx,hl⟩,k=>by
  subst e;rw[List.forIn_cons];refine wpAny_bind (wpAny_bind (H x (.head _) E s v _ hx (wpAny_pure ?_)));show wpAny _ _ (forIn r (b.push x.hash) _) _ _ _;refine JjR A l (fun y hy=>H y (.tail _ hy)) { s with toks:=s.toks+x.draws } r (b.push x.hash) Q hl (fun r' z=>?_);have z':=k r' (by rw[z,Array.toList_push,List.append_assoc]; rfl);have e:s.toks+x.draws+IT.draws.go l=s.toks+IT.draws.go (x::l):=Nat.add_assoc ..;show Q r' { s with toks:=s.toks+x.draws+IT.draws.go l };rw[e]; exact z'
theorem Jlz:∀ (n:Nat) (x:IT),x.depth≤n→∀ A:Around,A.units+n<cLine→Ji7 prog w x A
 | _,.int i,_,A,_,E,s,v,Q,⟨t,e⟩,h=>by subst e; exact wpAny_pyHash_int h
 | 0,.tup l,hd,_,_,_,_,_,_,_,_=>absurd hd (Nat.not_succ_le_zero _)
 | n+1,.tup l,hdep,A,hu,E,s,v,Q,⟨a,items,e,ht,hl⟩,h=>by
  subst e;have hT:=ht.typeIs;obtain⟨o,ho,hc,n',hd⟩:=ht;have hu0:A.units<cLine:=by omega
  unfold pyHash pyHashByItsType;refine wpAny_bind (wpAny_cRoomFor_or (.inr hu0) ?_);refine wpAny_bind (wpAny_specialOf hT F.slot_tuple_hash.lookup ?_);show wpAny _ _ (if (some (Value.builtin "tuple.__hash__")==some Value.none)=true then _ else _) Q E s;rw[if_neg (by rw[beq_builtin_none]; exact Bool.false_ne_true)];refine wpAny_bind (wpAny_specialOf hT F.slot_tuple_hash.lookup ?_);show wpAny _ _ (callSpecialIfBoundUnlessNone? (.ref a) "__hash__" _ >>= _) Q E s;refine wpAny_bind (wpAny_callSpecialIfBoundUnlessNone?_slot hT F.slot_tuple_hash (wpAny_call_entry F.slot_tuple_hash hT F.entry_tuple_hash ?_ (F.args_tuple_hash_1 _)));show wpAny _ _ (Builtin.Tuple.tupleItemsOf (.ref a) >>= _) _ _ s;refine wpAny_bind (wpAny_tupleItemsOf ho hd ?_);refine wpAny_bind ?_;rw[← Array.forIn_toList];have hdl:IT.depth.go l≤n:=Nat.le_of_succ_le_succ hdep;refine JjR A.in1 l (fun x hx=>Jlz n x (Nat.le_trans (IT.depth_go hx) hdl) A.in1 (by show A.units+1+n<cLine; omega)) s items.toList #[] _ hl (fun b hb=>?_);have hb:b.toList=IT.hash.go l:=by rw[hb]; simp
  show wpAny _ _ (retInt (Builtin.Tuple.tupleHashOf b.toList)) _ _ _;rw[hb];refine wpAny_ret_mkInt ?_;show wpAny _ _ (if (decide (-(2:Int) ^ 63≤Builtin.Tuple.tupleHashOf (IT.hash.go l))&&decide (Builtin.Tuple.tupleHashOf (IT.hash.go l)<2 ^ 63))=true then _ else _) Q E _;have eh:(IT.tup l).hash=reduceHash (Builtin.Tuple.tupleHashOf (IT.hash.go l)):=rfl;have ed:(IT.tup l).draws=IT.draws.go l+1:=rfl;rw[eh,ed] at h;unfold reduceHash at h;by_cases hr:(decide (-(2:Int) ^ 63≤Builtin.Tuple.tupleHashOf (IT.hash.go l))&&decide (Builtin.Tuple.tupleHashOf (IT.hash.go l)<2 ^ 63))=true
  · rw[if_pos hr];rw[if_pos hr] at h;exact wpAny_pure h
  · rw[if_neg hr];rw[if_neg hr] at h;exact wpAny_bind (wpAny_rule (wpAny_pure h))
theorem Jg0 (d:Nat)(A:Around):∀ (l:List IT),(∀ x∈l,∀ (E:Value→Shared→Prop) (s:Shared) (v:Value) (Q:Bool→Shared→Prop),J2 s.heap x v→Q true s→wpAny (model prog w) A (eqIsQuiet d v) Q E s) →
  ∀ (s:Shared) (vs:List Value) (Q:Option Bool×Unit→Shared→Prop),J2.go s.heap l vs→Q (none,()) s →
  wpAny (model prog w) A (forIn vs ((none,()):Option Bool×Unit) fun y _=>do if (!(← eqIsQuiet d y))=true then pure (ForInStep.done (some false,())) else pure (ForInStep.yield (none,()))) Q E s
 | [],_,s,vs,Q,e,k=>by
  have e:vs=[]:=e;subst e;exact wpAny_pure k
 | x::l,H,s,vs,Q,⟨v,r,e,hx,hl⟩,k=>by
  subst e;rw[List.forIn_cons];refine wpAny_bind (wpAny_bind (H x (.head _) E s v _ hx ?_));simp only[Bool.not_true,Bool.false_eq_true,if_false];exact wpAny_pure (Jg0 d A l (fun y hy=>H y (.tail _ hy)) s r Q hl k)
theorem Jj2:∀ (n:Nat) (x:IT),x.depth≤n→∀ (A:Around) (E:Value→Shared→Prop) (s:Shared) (v:Value) (Q:Bool→Shared→Prop),J2 s.heap x v→Q true s→wpAny (model prog w) A (eqIsQuiet n v) Q E s
 | n,.int i,_,A,E,s,v,Q,⟨t,e⟩,h=>by
  subst e;have:eqIsQuiet n (.int i t)=pure true:=by cases n <;> rfl
  rw[this]; exact wpAny_pure h
 | 0,.tup l,hd,_,_,_,_,_,_,_=>absurd hd (Nat.not_succ_le_zero _)
 | n+1,.tup l,hdep,A,E,s,v,Q,⟨a,items,e,ht,hl⟩,h=>by
  subst e;have hT:=ht.typeIs;obtain⟨o,ho,hc,n',hd⟩:=ht;unfold eqIsQuiet;refine wpAny_bind (wpAny_specialOf hT F.slot_tuple_eq.lookup ?_);show wpAny _ _ (isInstance (.ref a) (.type "tuple") >>= _) _ _ s;refine wpAny_bind (wpAny_isInstance hT isSubtype_tuple_tuple ?_);simp only[Bool.not_true,Bool.false_eq_true,if_false];refine wpAny_bind (wpAny_seqItems ho hd ?_);refine wpAny_bind ?_;show wpAny _ _ (forIn items _ _) _ _ s;rw[← Array.forIn_toList];have hdl:IT.depth.go l≤n:=Nat.le_of_succ_le_succ hdep;exact Jg0 n A l (fun x hx E s v Q=>Jj2 n x (Nat.le_trans (IT.depth_go hx) hdl) A E s v Q) s items.toList _ hl (wpAny_pure h)
def Jan (prog:Program)(w:World):HeapKind prog w IT where
 is:=fun h k a=>k.depth≤8∧J2 h k (.ref a)
 hash:=IT.hash
 draws:=IT.draws
 room:=fun A=>A.units+20<cLine
 inj:=fun hx hy=>hx.2.inj hy.2
 keeps:=fun {h h' k a d o es ep} x ho hd hs=>⟨x.1,by
  have go:∀ (k:IT) (v:Value),J2 h k v→J2 h' k v:=fun k v y=>by
   refine y.mono' fun b ob e c=>?_;refine (hs.2 b ?_).trans e;rintro rfl;obtain rfl:ob=o:=Jp (e.symm.trans ho);obtain⟨n,vs,q⟩:=c;rw[hd] at q; cases q
  exact go k _ x.2⟩
 pyHash:=fun {A E s k a Q} hu hk h=>Jlz 8 k hk.1 A (by omega) E s _ Q hk.2 h
 eqBool:=fun {A E s x y a b Q} hu hx hy h=>by
  refine SeqAt.eqAt_reads x.py y.py A s _ _ _ _ hx.2.reads hy.2.reads (IT.canLay x) (IT.canLay y) ?_ prog w E Q (by rw[IT.eqv_decide]; exact h);rw[IT.depth_py,IT.depth_py];have:=hx.1;have:min x.depth y.depth≤x.depth:=Nat.min_le_left _ _;omega
 quiet:=fun {A E s k a Q} hk h=>Jj2 8 k hk.1 A E s _ Q hk.2 h
end
noncomputable def JaB (h h':Heap):Prop:=∀ b o,h.get? b=some o→((o.cls=.type "tuple"∧∃ xs n,o.data=.seq xs n)∨∃ v,o.data=.cell v)→h'.get? b=some o
theorem JaB.tup {h h':Heap}(k:JaB h h'):JC h h':=fun a o e c=>k a o e (.inl c)
theorem JaB.cell {h h':Heap}(k:JaB h h'){c:Addr}{v:Option Value}(x:h.IsCell c v):h'.IsCell c v:=by
 obtain⟨o,e,d⟩:=x;exact⟨o,k c o e (.inr ⟨v,d⟩),d⟩
theorem JaB.of_all {h h':Heap}(k:∀ b o,h.get? b=some o→h'.get? b=some o):JaB h h':=fun b o e _=>k b o e
theorem JaB.refl (h:Heap):JaB h h:=fun _ _ e _=>e
theorem JaB.trans {h h' h'':Heap}(x:JaB h h')(y:JaB h' h''):JaB h h'':=fun b o e c=>y b o (x b o e c) c
noncomputable def IsP (h:Heap):PyData→Value→Prop
 | .none,v=>v=.none
 | .bool b,v=>v=.bool b
 | .int i,v=>∃ t,v=.int i t
 | .str s,v=>∃ t,v=.str s t
 | .tuple l,v=>E2 (fun (a:Addr) (items:Array Value)=>v=.ref a) (fun a items=>h.IsTuple a items) (fun _ items=>go h l items.toList)
 | .list _,_=>False
 | .dict _,_=>False
where go (h:Heap):List PyData→List Value→Prop
 | [],vs=>vs=[]
 | x::l,vs=>E2 (fun (v:Value) (r:List Value)=>vs=v::r) (fun v _=>IsP h x v) (fun _ r=>go h l r)
section
variable {h h':Heap}
mutual
theorem IsP.mono (k:JC h h'):∀ {x:PyData}{v:Value},IsP h x v→IsP h' x v
 | .none,_,x=>x
 | .bool _,_,x=>x
 | .int _,_,x=>x
 | .str _,_,x=>x
 | .tuple _,_,⟨a,its,e,t,r⟩=>⟨a,its,e,k.tuple t,IsP.monoAll k r⟩
 | .list _,_,x=>x.elim
 | .dict _,_,x=>x.elim
theorem IsP.monoAll (k:JC h h'):∀ {l:List PyData}{vs:List Value},IsP.go h l vs→IsP.go h' l vs
 | [],_,x=>x
 | _::_,_,⟨v,r,e,x,y⟩=>⟨v,r,e,IsP.mono k x,IsP.monoAll k y⟩
end
mutual
theorem IsP.reads:∀ {x:PyData}{v:Value},IsP h x v→Reads h v x []
 | .none,_,e=>by have e:_=Value.none:=e; subst e; exact .none
 | .bool b,_,e=>by have e:_=Value.bool b:=e; subst e; exact .bool b
 | .int i,_,⟨t,e⟩=>e ▸ .int i t
 | .str i,_,⟨t,e⟩=>e ▸ .str i t
 | .tuple l,_,⟨a,items,e,⟨o,ho,hc,n,hd⟩,r⟩=>by
  subst e;exact .tuple ho hc hd (IsP.readsAll r)
 | .list _,_,x=>x.elim
 | .dict _,_,x=>x.elim
theorem IsP.readsAll:∀ {l:List PyData}{vs:List Value},IsP.go h l vs→ReadsAll h vs l []
 | [],_,e=>by have e:_=[]:=e; subst e; exact .nil
 | x::l,_,⟨v,r,e,a,b⟩=>by
  subst e;exact ReadsAll.cons (as:=[]) (bs:=[]) (IsP.reads a) (IsP.readsAll b)
end
end
section
variable (prog:Program)(w:World)(ν:Vl)(clsA:List Addr)
def JaU (ad:List Addr)(h:Heap):Loc→List DictEntry→Prop
 | [],es=>es=[]
 | (x,d)::r,es=>E45 (fun (e:DictEntry) (es':List DictEntry) (_:Str) (_:Tok)=>es=e::es') (fun _ _ nm _=>Js NT x=some nm) (fun e _ nm t=>e.key=.str nm t) (fun e _ _ _=>Je ν ad h d e.val) (fun _ es' _ _=>JaU ad h r es')
def JaW (ad:List Addr)(h:Heap):List (D×D)→List (Int×Value)→Prop
 | [],kvs=>kvs=[]
 | (k,d)::r,kvs=>E34 (fun (e:IE) (_:Value) (_:List (Int×Value))=>k=.int e) (fun e v kvs'=>kvs=(e.val ν,v)::kvs') (fun _ v _=>Je ν ad h d v) (fun _ _ kvs'=>JaW ad h r kvs')
def JbX (ad:List Addr)(h:Heap):List (D×D)→List (Str×Value)→Prop
 | [],kvs=>kvs=[]
 | (k,d)::r,kvs=>E34 (fun (e:SE) (_:Value) (_:List (Str×Value))=>k=.str e) (fun e v kvs'=>kvs=(e.val ν,v)::kvs') (fun _ v _=>Je ν ad h d v) (fun _ _ kvs'=>JbX ad h r kvs')
def Jaa (ad:List Addr)(h:Heap):List (D×D)→List (IT×Addr×Value)→Prop
 | [],xs=>xs=[]
 | (k,d)::r,xs=>E44 (fun (x:IT) (_:Addr) (_:Value) (_:List (IT×Addr×Value))=>IT.of ν k=some x) (fun x a v xs'=>xs=(x,a,v)::xs') (fun _ _ v _=>Je ν ad h d v) (fun _ _ _ xs'=>Jaa ad h r xs')
def J9 (ad:List Addr)(h:Heap):List (Nat×D×D)→List (IT×Addr×Value)→Prop
 | [],xs=>xs=[]
 | (j,k,d)::r,xs=>(ν.dg j=1∧E44 (fun (x:IT) (_:Addr) (_:Value) (_:List (IT×Addr×Value))=>IT.of ν k=some x) (fun x a v xs'=>xs=(x,a,v)::xs') (fun _ _ v _=>Je ν ad h d v) (fun _ _ _ xs'=>J9 ad h r xs'))∨(ν.dg j=0∧J9 ad h r xs)
def Jac (h:Heap)(t:Nat)(vs:List Value):Prop:=if t=0 then vs=[] else (vs.length:Int)=ν.iv t∧vs.length≤100000∧(t=5∨t=6→IsP.go h (ν.pre t) vs)
def JL (ad:List Addr)(h:Heap)(a:Addr):Jo→Prop
 | .inst c d=>E2 (fun (K dx:Addr)=>Js clsA c=some K) (fun _ dx=>ad[d]?=some dx) (fun K dx=>h.get? a=some (instObj K dx))
 | .ns c l=>E34 (fun (o:Obj) (_:Array DictEntry) (_:Nat)=>h.get? a=some o) (fun o es ep=>o.data=.dict es ep) (fun _ es _=>JaU ν ad h l es.toList) (fun _ _ _=>∀ p∈l,∃ cl,Js C c=some cl∧JbV cl.att p.1=true)
 | .list t l=>E34 (fun (items:Array Value) (_ _:List Value)=>h.PlainList a items) (fun items v1 v2=>items.toList=v1++v2) (fun _ v1 _=>Jac ν h t v1) (fun _ _ v2=>Je.goL ν ad h l v2)
 | .dict k l=>match k with
  | 0=>E1 (fun kvs=>h.DictOf (PySem.intKind prog w) a kvs) (fun kvs=>JaW ν ad h l kvs)
  | 1=>E1 (fun kvs=>h.DictOf (PySem.strKind prog w) a kvs) (fun kvs=>JbX ν ad h l kvs)
  | 2=>E1 (fun xs=>h.DictOfH (Jan prog w) a xs) (fun xs=>Jaa ν ad h l xs)
  | _=>l=[]∧h.DictOf (PySem.intKind prog w) a []
 | .sdict l=>a≠sysModules∧E1 (fun kvs=>h.DictOf (PySem.intKind prog w) a kvs) (fun kvs=>JaW ν ad h l kvs)
 | .idict l=>E24 (fun (k0 kvs:List (Int×Value))=>h.DictOf (PySem.intKind prog w) a (k0++kvs)) (fun k0 _=>∀ p∈k0,p.1<ν.iv 1∧(k0.length:Int)≤ν.iv 4) (fun _ kvs=>JaW ν ad h l kvs) (fun _ _=>∀ p∈l,∃ n,p.1=.int (.var 1 (.ofNat n)))
 | .cdict l=>(∃ ks:List IT,l.map (fun p=>IT.of ν p.2.1)=ks.map some∧ks.Nodup)∧h.get? a=ν.fz a∧E1 (fun xs=>h.DictOfH (Jan prog w) a xs) (fun xs=>J9 ν ad h l xs)
end
noncomputable def JdM:Jo→Bool
 | .sdict _=>true
 | _=>false
theorem DictOf.move {prog:Program}{w:World}{K:Type}[DecidableEq K]{knd:PySem.KeyKind prog w K}{h h':Heap}{a:Addr}{kvs:List (K×Value)}(x:h.DictOf knd a kvs)(e:h'.get? a=h.get? a):h'.DictOf knd a kvs:=by
 obtain⟨o,es,ep,ho,r⟩:=x;exact⟨o,es,ep,e.trans ho,r⟩
theorem DictOfH.move {prog:Program}{w:World}{h h':Heap}{a:Addr}{xs:List (IT×Addr×Value)}(x:h.DictOfH (Jan prog w) a xs)(e:h'.get? a=h.get? a)(k:JC h h'):h'.DictOfH (Jan prog w) a xs:=by
 obtain⟨o,es,ep,ho,hx,hd,he,hk,hn⟩:=x;exact⟨o,es,ep,e.trans ho,hx,hd,he,fun p hp=>⟨(hk p hp).1,(hk p hp).2.mono k⟩,hn⟩
theorem IsList.move {h h':Heap}{a:Addr}{items:Array Value}(x:h.PlainList a items)(e:h'.get? a=h.get? a):h'.PlainList a items:=by
 obtain⟨n,ho⟩:=x;exact⟨n,e.trans ho⟩
theorem Ns.move {h h':Heap}{a:Addr}{m:Str→Option Value}(x:h.Ns a m)(e:h'.get? a=h.get? a):h'.Ns a m:=by
 obtain⟨o,es,ep,ho,r⟩:=x;exact⟨o,es,ep,e.trans ho,r⟩
section
variable {prog:Program}{w:World}{ν:Vl}{clsA:List Addr}{ad ad':List Addr}{h h':Heap}
theorem JaU.mono (k:JC h h')(p:Pre ad ad'):∀ {l:Loc}{es:List DictEntry},JaU ν ad h l es→JaU ν ad' h' l es
 | [],_,x=>x
 | (_,_)::_,_,⟨e,es',nm,t,a,b,c,d,f⟩=>⟨e,es',nm,t,a,b,c,d.mono k p,JaU.mono k p f⟩
theorem JaW.mono (k:JC h h')(p:Pre ad ad'):∀ {l:List (D×D)}{kvs:List (Int×Value)},JaW ν ad h l kvs→JaW ν ad' h' l kvs
 | [],_,x=>x
 | (_,_)::_,_,⟨e,v,r,a,b,c,d⟩=>⟨e,v,r,a,b,c.mono k p,JaW.mono k p d⟩
theorem JbX.mono (k:JC h h')(p:Pre ad ad'):∀ {l:List (D×D)}{kvs:List (Str×Value)},JbX ν ad h l kvs→JbX ν ad' h' l kvs
 | [],_,x=>x
 | (_,_)::_,_,⟨e,v,r,a,b,c,d⟩=>⟨e,v,r,a,b,c.mono k p,JbX.mono k p d⟩
theorem Jaa.mono (k:JC h h')(p:Pre ad ad'):∀ {l:List (D×D)}{xs:List (IT×Addr×Value)},Jaa ν ad h l xs→Jaa ν ad' h' l xs
 | [],_,x=>x
 | (_,_)::_,_,⟨x,a,v,r,e,b,c,d⟩=>⟨x,a,v,r,e,b,c.mono k p,Jaa.mono k p d⟩
theorem J9.mono (k:JC h h')(p:Pre ad ad'):∀ {l:List (Nat×D×D)}{xs:List (IT×Addr×Value)},J9 ν ad h l xs→J9 ν ad' h' l xs
 | [],_,x=>x
 | (_,_,_)::_,_,.inl ⟨j,x,a,v,r,e,b,c,d⟩=>.inl ⟨j,x,a,v,r,e,b,c.mono k p,J9.mono k p d⟩
 | (_,_,_)::_,_,.inr ⟨j,d⟩=>.inr ⟨j,J9.mono k p d⟩
theorem Jac.mono (k:JC h h'){t:Nat}{vs:List Value}(x:Jac ν h t vs):Jac ν h' t vs:=by
 unfold Jac at x ⊢;split at x
 · rename_i e; rw[if_pos e]; exact x
 · rename_i e; rw[if_neg e]; exact⟨x.1,x.2.1,fun q=>IsP.monoAll k (x.2.2 q)⟩
theorem JL.move {a:Addr}{o:Jo}(x:JL prog w ν clsA ad h a o)(e:h'.get? a=h.get? a)(k:JC h h')(p:Pre ad ad'):JL prog w ν clsA ad' h' a o:=by
 cases o with
 | inst c d =>
  obtain⟨K,dx,a1,a2,a3⟩:=x;exact⟨K,dx,a1,p _ _ a2,e.trans a3⟩
 | ns c l =>
  obtain⟨o,es,ep,a1,a2,a3,a4⟩:=x;exact⟨o,es,ep,e.trans a1,a2,a3.mono k p,a4⟩
 | list t l =>
  obtain⟨items,v1,v2,a1,a2,a3,a4⟩:=x;exact⟨items,v1,v2,IsList.move a1 e,a2,a3.mono k,Je.monoL k p a4⟩
 | dict kd l =>
  match kd with
  | 0=>obtain⟨kvs,a1,a2⟩:=x; exact⟨kvs,DictOf.move a1 e,a2.mono k p⟩
  | 1=>obtain⟨kvs,a1,a2⟩:=x; exact⟨kvs,DictOf.move a1 e,a2.mono k p⟩
  | 2=>obtain⟨kvs,a1,a2⟩:=x; exact⟨kvs,DictOfH.move a1 e k,a2.mono k p⟩
  | _+3=>have q:=And.left (x); have a1:=And.right (x); exact⟨q,DictOf.move a1 e⟩
 | sdict l=>obtain⟨q,kvs,a1,a2⟩:=x; exact⟨q,kvs,DictOf.move a1 e,a2.mono k p⟩
 | idict l=>obtain⟨k0,kvs,a1,a2,a3,a4⟩:=x; exact⟨k0,kvs,DictOf.move a1 e,a2,a3.mono k p,a4⟩
 | cdict l=>obtain⟨nd,fr,kvs,a1,a2⟩:=x; exact⟨nd,e.trans fr,kvs,DictOfH.move a1 e k,a2.mono k p⟩
noncomputable def JQ (h:Heap)(a:Addr):Prop:=∃ ob,h.get? a=some ob∧(∀ xs n,ob.cls=.type "tuple"→ob.data≠.seq xs n)∧∀ v,ob.data≠.cell v
theorem JQ.dict {a:Addr}{ob:Obj}{es:Array DictEntry}{ep:Nat}(ho:h.get? a=some ob)(hd:ob.data=.dict es ep):JQ h a:=by
 refine⟨ob,ho,?_,?_⟩
 · intro xs n _ q; rw[hd] at q; cases q
 · intro v q; rw[hd] at q; cases q
theorem JQ.of {K:Type}[DecidableEq K]{knd:PySem.KeyKind prog w K}{a:Addr}{kvs:List (K×Value)}(x:h.DictOf knd a kvs):JQ h a:=by
 obtain⟨ob,es,ep,ho,hx,hd,_⟩:=x;exact .dict ho hd
theorem JQ.ofH {a:Addr}{xs:List (IT×Addr×Value)}(x:h.DictOfH (Jan prog w) a xs):JQ h a:=by
 obtain⟨ob,es,ep,ho,hx,hd,_⟩:=x;exact .dict ho hd
theorem JL.there {a:Addr}{o:Jo}(x:JL prog w ν clsA ad h a o):JQ h a:=by
 cases o with
 | inst c d =>
  obtain⟨K,dx,a1,a2,a3⟩:=x;refine⟨_,a3,?_,?_⟩
  · intro xs n _ q; cases q
  · intro v q; cases q
 | ns c l =>
  obtain⟨ob,es,ep,ho,hd,_⟩:=x;exact .dict ho hd
 | list t l =>
  obtain⟨items,v1,v2,g1,_⟩:=x;obtain⟨ob,ho,hc,n,hd⟩:=g1.isList;refine⟨ob,ho,?_,?_⟩
  · intro xs n q; rw[hc] at q; simp at q
  · intro v q; rw[hd] at q; cases q
 | dict kd l =>
  match kd with
  | 0=>obtain⟨_,a1,_⟩:=x; exact .of a1
  | 1=>obtain⟨_,a1,_⟩:=x; exact .of a1
  | 2=>obtain⟨_,a1,_⟩:=x; exact .ofH a1
  | _+3=>exact .of x.2
 | sdict l=>obtain⟨_,kvs,a1,_⟩:=x; exact .of a1
 | idict l=>obtain⟨k0,kvs,a1,_⟩:=x; exact .of a1
 | cdict l=>obtain⟨_,_,_,a1,_⟩:=x; exact .ofH a1
end
noncomputable def pyD:D→PyData
 | .int (.lit i)=>.int i
 | .tup l=>.tuple (go l)
 | _=>.none
where go:List D→List PyData
 | []=>[]
 | d::l=>pyD d::go l
noncomputable def Jdc:D→Bool
 | .int (.lit _)=>true
 | .tup l=>go l
 | _=>false
where go:List D→Bool
 | []=>true
 | d::l=>Jh (Jdc d) (go l)
structure Jx where
 prog:Program
 w:World
 ν:Vl
 clsA:List Addr
 h₀:Heap
 ad₀:List Addr
 small:∀ t,t<6→0≤ν.iv t∧ν.iv t≤100000
 pos:1≤ν.iv 2
 opqOk:∀ t i,ν.ov t≠.builtin i
 lowSys:∃ o,h₀.get? sysModules=some o
 preOk:PyData.canLayAll0 (ν.pre 5)=true∧PyData.depthAll (ν.pre 5)≤50
 askOk:∃ k:Nat,ν.iv 3=200+(k:Int)∧(ν.pre 6)[k]?=some (.tuple ((List.range 10).map fun j=>.int (ν.dg j)))∧∀ j r,Js JW j=some r→ν.dg j<r
 firstOk:∃ r,ν.pre 6=pyD.go Jae++r
structure Jk (c:Jx)(ad:List Addr)(fs:List JH)(st:St)(h:Heap):Prop where
 dense:JD st.objs st.n
 len:ad.length=st.n
 objs:∀ i o,st.objs.get i=some o→E13 (fun (a:Addr)=>ad[i]?=some a) (fun a=>JL c.prog c.w c.ν c.clsA ad h a o) (fun a=>JdM o=true∨c.h₀.get? a=none)
 link:∀ i k d,st.objs.get i=some (.inst k d)→∃ l,st.objs.get d=some (.ns k l)
 nodup:(ad++fs.map (·.L)).Nodup
 frames:Jau c.ν ad h fs (st.loc::st.rest)
 low:∀ f∈fs,c.h₀.get? f.L=none
 base:∀ b o,c.h₀.get? b=some o→h.get? b=some o
 dom:∀ j l,Js st.dom j=some l→c.ν.dg j∈l
 root:Pre c.ad₀ ad
structure JN (ad:List Addr)(fs:List JH)(s:Shared)(ad':List Addr)(s':Shared):Prop where
 pre:Pre ad ad'
 newer:∀ a∈ad',a∈ad∨s.heap.get? a=none
 keep:∀ b o,s.heap.get? b=some o→b ∉ ad→b ∉ fs.map (·.L)→s'.heap.get? b=some o
 kept:JaB s.heap s'.heap
 gens:s'.gens=s.gens
 drawn:s'.drawn=s.drawn
 os:s'.os=s.os
theorem JN.refl (ad:List Addr)(fs:List JH)(s:Shared):JN ad fs s ad s :=
 ⟨fun _ _ e=>e,fun _ e=>.inl e,fun _ _ e _ _=>e,.refl _,rfl,rfl,rfl⟩
theorem Jqn {s s':Heap}{ad:List Addr}{fs:List JH}(k:∀ b o,s.get? b=some o→b ∉ ad→b ∉ fs.map (·.L)→s'.get? b=some o)(k2:∀ b∈ad,JQ s' b)(k3:∀ b∈fs.map (·.L),JQ s' b){a:Addr}(e:s'.get? a=none):s.get? a=none:=by
 cases q:s.get? a with
 | none=>rfl
 | some o =>
  by_cases m1:a∈ad
  · obtain⟨o',e',_⟩:=k2 a m1; rw[e] at e'; cases e'
  · by_cases m2:a∈fs.map (·.L)
    · obtain⟨o',e',_⟩:=k3 a m2; rw[e] at e'; cases e'
    · have:=k a o q m1 m2; rw[e] at this; cases this
section
variable {c:Jx}{ad ad':List Addr}{f:JH}{fs:List JH}{st:St}{h h':Heap}
theorem Ja6.move {ν:Vl}{l:Loc}(x:Ja6 ν ad h f l)(e:h'.get? f.L=h.get? f.L)(k:JaB h h')(p:Pre ad ad'):Ja6 ν ad' h' f l:=by
 refine Jf fun n1G=>?_;obtain⟨m,a,b⟩:=x;refine n1G ?_;clear n1G;refine⟨m,Ns.move a e,fun x nm d q1 q2=>⟨fun q=>?_,fun q=>?_⟩⟩
 · refine Jf fun n2G=>?_;obtain⟨v,z1,z2⟩:=(b x nm d q1 q2).1 q;exact n2G ⟨v,z1,z2.mono k.tup p⟩
 · refine Jf fun n3G=>?_;obtain⟨c,v,z1,z2,z3⟩:=(b x nm d q1 q2).2 q;exact n3G ⟨c,v,z1,k.cell z2,z3.mono k.tup p⟩
theorem Jau.move {ν:Vl}:∀ {fs:List JH}{ls:List Loc},Jau ν ad h fs ls→(∀ f∈fs,h'.get? f.L=h.get? f.L)→JaB h h'→Pre ad ad'→Jau ν ad' h' fs ls
 | [],_,x,_,_,_=>x
 | f::fs,_,⟨l,r,e,x,y⟩,q,k,p=>⟨l,r,e,x.move (q f (.head _)) k p,Jau.move y (fun g hg=>q g (.tail _ hg)) k p⟩
theorem Ja6.there {ν:Vl}{l:Loc}(x:Ja6 ν ad h f l):JQ h f.L:=by
 obtain⟨m,⟨o,es,ep,ho,hd,_⟩,b⟩:=x;exact .dict ho hd
theorem Jau.there {ν:Vl}:∀ {fs:List JH}{ls:List Loc},Jau ν ad h fs ls→∀ f∈fs,JQ h f.L
 | [],_,_,f,hf=>absurd hf List.not_mem_nil
 | g::fs,_,h,f,hf=>by
  obtain⟨l,r,_,x,y⟩:=h;rcases List.mem_cons.mp hf with q | q
  · rw[q]; exact x.there
  · exact Jau.there y f q
theorem Jk.old (R:Jk c ad fs st h){a:Addr}(q:a∈ad):JQ h a:=by
 obtain⟨i,hi,e⟩:=List.mem_iff_getElem.mp q;have:(st.objs.get i).isSome=true:=(R.dense.some_iff i).mpr (R.len ▸ hi);obtain⟨o,ho⟩:=Option.isSome_iff_exists.mp this;obtain⟨b,hb,x,_⟩:=R.objs i o ho;rw[List.getElem?_eq_getElem hi,e] at hb;obtain rfl:=Jp hb;exact x.there
theorem JQ.lt {a:Addr}(x:JQ h a):a<h.objs.size:=by
 obtain⟨o,e,_⟩:=x;exact Heap.lt_size e
theorem Jk.grow (R:Jk c ad fs st h)(k:∀ b o,h.get? b=some o→h'.get? b=some o):Jk c ad fs st h':=by
 have same:∀ {a},JQ h a→h'.get? a=h.get? a:=by
  rintro a ⟨o,e,_⟩; rw[e]; exact k _ _ e
 refine⟨R.dense,R.len,fun i o e=>?_,R.link,R.nodup,R.frames.move (fun f hf=>same (R.frames.there f hf)) (.of_all k) (fun _ _ e=>e),R.low,fun b o e=>k _ _ (R.base b o e),R.dom,R.root⟩;obtain⟨a,h1,h2,h3⟩:=R.objs i o e;exact⟨a,h1,h2.move (same h2.there) (JaB.of_all k).tup (fun _ _ e=>e),h3⟩
theorem Jk.push (R:Jk c ad fs st h)(o:Obj):Jk c ad fs st (h.push o):=R.grow (fun _ _ e=>Heap.get?_push_of_some _ e)
theorem Pre.snoc (ad:List Addr)(a:Addr):Pre ad (ad++[a]):=fun i b e=>by
 rw[List.getElem?_append_left (List.getElem?_eq_some_iff.mp e).1]; exact e
theorem Jk.alloc (R:Jk c ad fs st h)(k:∀ b o,h.get? b=some o→h'.get? b=some o){a:Addr}(ha:h.get? a=none){o:Jo}
  (x:JL c.prog c.w c.ν c.clsA (ad++[a]) h' a o) (hl:∀ kk d,o=.inst kk d→∃ l,st.objs.get d=some (.ns kk l)):Jk c (ad++[a]) fs (st.alloc o) h':=by
 have R':=R.grow k;have h0:c.h₀.get? a=none:=by
  cases q:c.h₀.get? a with
  | none=>rfl
  | some o=>rw[R.base a o q] at ha; cases ha
 have Z:=JD.put_new o R.dense;have lt:∀ {i o},st.objs.get i=some o→i≠st.n:=fun {i o} e q=>by
  have:=(R.dense.some_iff i).mp (by rw[e]; rfl);omega
 have pr:=Pre.snoc ad a;refine⟨Z.1,?_,fun i o' e=>?_,fun i kk d e=>?_,?_,R'.frames.move (fun _ _=>rfl) (.refl _) pr,R.low,R'.base,R.dom,fun i b e=>pr i b (R.root i b e)⟩
 · show (ad++[a]).length=Nat.succ st.n;rw[List.length_append,R.len]; rfl
 · replace e:(st.objs.put st.n o).get i=some o':=e;rw[Z.2] at e;split at e
   · rename_i q;subst q;obtain rfl:=Jp e;refine⟨a,?_,x,.inr h0⟩;rw[← R.len,List.getElem?_append_right (Nat.le_refl _),Nat.sub_self]; rfl
   · obtain⟨b,h1,h2,h3⟩:=R'.objs i o' e;exact⟨b,pr _ _ h1,h2.move rfl (.refl _) pr,h3⟩
 · replace e:(st.objs.put st.n o).get i=some (.inst kk d):=e;rw[Z.2] at e;have on:∃ l,st.objs.get d=some (.ns kk l):=by
    split at e
    · obtain rfl:=Jp e; exact hl _ _ rfl
    · exact R.link i kk d e
   obtain⟨l,q⟩:=on;refine⟨l,?_⟩;show (st.objs.put st.n o).get d=_;rw[Z.2,if_neg (lt q)]; exact q
 · have n:=R.nodup;rw[List.nodup_append] at n ⊢;refine⟨?_,n.2.1,?_⟩
   · rw[List.nodup_append];refine⟨n.1,by simp,fun b hb d hd=>?_⟩
     cases List.mem_singleton.mp hd
     obtain⟨ob,this,_⟩:=R.old hb;exact fun e=>by subst e; rw[ha] at this; cases this
   · intro b hb d hd;rcases List.mem_append.mp hb with hb | hb
     · exact n.2.2 b hb d hd
     · cases List.mem_singleton.mp hb
       obtain⟨g,hg,rfl⟩:=List.mem_map.mp hd;obtain⟨ob,this,_⟩:=R.frames.there g hg;exact fun e=>by rw[e] at ha; rw[ha] at this; cases this
theorem Jk.get_inj (R:Jk c ad fs st h){i j:Nat}{a:Addr}(x:ad[i]?=some a)(y:ad[j]?=some a):i=j:=by
 have n:=(List.nodup_append.mp R.nodup).1;exact (List.getElem?_inj (List.getElem?_eq_some_iff.mp x).1 n).mp (x.trans y.symm)
theorem Jk.upd (R:Jk c ad fs st h){i:Nat}{a:Addr}{o o':Jo}(e:st.objs.get i=some o)(ea:ad[i]?=some a)(sb:Heap.SameBut a h h')(hs:JdM o=false)
  (x:JL c.prog c.w c.ν c.clsA ad h' a o') (hn:∀ k l,o=.ns k l→∃ l',o'=.ns k l') (hi:∀ k d,o'≠.inst k d):Jk c ad fs (st.set i o') h':=by
 have hp:(st.objs.get i).isSome=true:=by rw[e]; rfl
 have hlt:=(R.dense.some_iff i).mp hp;obtain⟨a',ea',oa,low⟩:=R.objs i o e;obtain rfl:=sjt ea ea';have low:c.h₀.get? a=none:=low.elim (fun q=>by rw[hs] at q; cases q) id;have P:=oa.there;have k:JaB h h':=fun b ob eb hb=>by
  by_cases q:b=a
  · refine Jf fun n1G=>?_;subst q;obtain⟨o2,e2,n1,n2⟩:=P;obtain rfl:=sjt eb e2;rcases hb with ⟨h1,xs,n,h2⟩ | ⟨v,h2⟩
    · exact absurd h2 (n1 xs n h1)
    · exact absurd h2 (n2 v)
  · rw[sb.2 b q]; exact eb
 have nd:=List.nodup_append.mp R.nodup;have ma:a∈ad:=List.mem_iff_getElem?.mpr ⟨i,ea⟩;have g1:(st.objs.put i o').get i=some o':=Tr.get_put_self o' _ _ hp;have g2:∀ j,j≠i→(st.objs.put i o').get j=st.objs.get j:=fun j q=>Tr.get_put_ne o' _ _ _ q hp;refine⟨JD.put_old o' R.dense hlt,R.len,fun j oj ej=>?_,fun j kk d ej=>?_,R.nodup,R.frames.move (fun f hf=>sb.2 _ ?_) k (fun _ _ e=>e),R.low,fun b ob eb=>?_,R.dom,R.root⟩
 · replace ej:(st.objs.put i o').get j=some oj:=ej;by_cases q:j=i
   · subst q;obtain rfl:=sjt g1 ej;exact⟨a,ea,x,.inr low⟩
   · rw[g2 j q] at ej;obtain⟨b,h1,h2,h3⟩:=R.objs j oj ej;refine⟨b,h1,h2.move (sb.2 b ?_) k.tup (fun _ _ e=>e),h3⟩;intro q2; subst q2;exact q (R.get_inj h1 ea)
 · replace ej:(st.objs.put i o').get j=some (.inst kk d):=ej;replace ej:st.objs.get j=some (.inst kk d):=by
    by_cases q:j=i
    · subst q;obtain rfl:=sjt g1 ej;exact absurd rfl (hi kk d)
    · rw[g2 j q] at ej; exact ej
   obtain⟨l,q⟩:=R.link j kk d ej;show ∃ l,(st.objs.put i o').get d=_;by_cases q2:d=i
   · refine Jf fun n2G=>?_;subst q2;obtain rfl:=sjt e q;obtain⟨l',q3⟩:=hn kk l rfl;exact n2G ⟨l',by rw[g1,q3]⟩
   · exact⟨l,by rw[g2 d q2]; exact q⟩
 · exact fun q=>nd.2.2 a ma f.L (List.mem_map.mpr ⟨f,hf,rfl⟩) q.symm
 · have q:=R.base b ob eb;rw[sb.2 b]; exact q;intro q2; subst q2;rw[low] at eb; cases eb
theorem JN.upd {s s':Shared}(R:Jk c ad fs st s.heap){a:Addr}(ma:a∈ad)(sb:Heap.SameBut a s.heap s'.heap)(hg:s'.gens=s.gens)(hd:s'.drawn=s.drawn)(ho:s'.os=s.os):JN ad fs s ad s':=by
 refine⟨fun _ _ e=>e,fun _ e=>.inl e,fun b o e n1 n2=>?_,fun b o eb hb=>?_,hg,hd,ho⟩
 · rw[sb.2 b]; exact e;intro q; subst q; exact n1 ma
 · by_cases q:b=a
   · refine Jf fun n1G=>?_;subst q;obtain⟨o2,e2,n1,n2⟩:=R.old ma;obtain rfl:=sjt eb e2;rcases hb with ⟨h1,xs,n,h2⟩ | ⟨v,h2⟩
     · exact absurd h2 (n1 xs n h1)
     · exact absurd h2 (n2 v)
   · rw[sb.2 b q]; exact eb
theorem JN.grow {s s':Shared}(k:∀ b o,s.heap.get? b=some o→s'.heap.get? b=some o)(hg:s'.gens=s.gens)(hd:s'.drawn=s.drawn)(ho:s'.os=s.os):JN ad fs s ad s' :=
 ⟨fun _ _ e=>e,fun _ e=>.inl e,fun b o e _ _=>k b o e,.of_all k,hg,hd,ho⟩
theorem JN.alloc {s s':Shared}(k:∀ b o,s.heap.get? b=some o→s'.heap.get? b=some o){a:Addr}(ha:s.heap.get? a=none)(hg:s'.gens=s.gens)(hd:s'.drawn=s.drawn)(ho:s'.os=s.os) :
  JN ad fs s (ad++[a]) s' :=
 ⟨Pre.snoc ad a,fun b e=>(List.mem_append.mp e).elim .inl fun e=>.inr (by cases List.mem_singleton.mp e; exact ha),fun b o e _ _=>k b o e,.of_all k,hg,hd,ho⟩
theorem Jk.setLoc (hNT:∀ x y nm,Js NT x=some nm→Js NT y=some nm→x=y)(R:Jk c ad (f::fs) st h){x:Nat}{nm:Str}{d:D}{v:Value}{m:Str→Option Value}(hx:Js NT x=some nm)
  (hk:f.sc.names.lookup nm=some .local) (hm:h.Ns f.L m) (hm':h'.Ns f.L (fun y=>if y=nm then some v else m y)) (sb:Heap.SameBut f.L h h') (xd:Je c.ν ad h d v):Jk c ad (f::fs) (st.setLoc x d) h':=by
 have nd:=List.nodup_append.mp R.nodup;have mf:f.L∈(f::fs).map (·.L):=.head _;obtain⟨l,r,er,⟨m2,z1,z2⟩,y⟩:=R.frames
 cases er
 have P:JQ h f.L:=Ja6.there (l:=st.loc) ⟨m2,z1,z2⟩;have low:=R.low f (.head _);have k:JaB h h':=fun b ob eb hb=>by
  by_cases q:b=f.L
  · refine Jf fun n1G=>?_;subst q;obtain⟨o2,e2,n1,n2⟩:=P;obtain rfl:=sjt eb e2;rcases hb with ⟨h1,xs,n,h2⟩ | ⟨v,h2⟩
    · exact absurd h2 (n1 xs n h1)
    · exact absurd h2 (n2 v)
  · rw[sb.2 b q]; exact eb
 have em:∀ y,m y=m2 y:=by
  refine Jf fun n2G=>?_;obtain⟨o1,es1,ep1,a1,a2,_,a3⟩:=hm;obtain⟨o2,es2,ep2,b1,b2,_,b3⟩:=z1;obtain rfl:=sjt a1 b1;rw[a2] at b2; cases b2;exact n2G (fun y=>(a3 y).symm.trans (b3 y))
 refine⟨R.dense,R.len,fun i o e=>?_,R.link,R.nodup,⟨_,_,rfl,⟨_,hm',fun x' nm' d' q1 q2=>?_⟩,y.move (fun g hg=>sb.2 _ ?_) k (fun _ _ e=>e)⟩,R.low,fun b ob eb=>?_,R.dom,R.root⟩
 · obtain⟨a,h1,h2,h3⟩:=R.objs i o e;refine⟨a,h1,h2.move (sb.2 a ?_) k.tup (fun _ _ e=>e),h3⟩;intro q;exact nd.2.2 a (List.mem_iff_getElem?.mpr ⟨i,h1⟩) f.L mf q
 · replace q2:lkp (putL st.loc x d) x'=some d':=q2;rw[JmY] at q2;split at q2
   · refine Jf fun n3G=>?_;rename_i q;subst q;obtain rfl:=Jp q2;obtain rfl:=sjt hx q1;refine n3G ?_;clear n3G;refine⟨fun _=>⟨v,by rw[if_pos rfl],xd.mono k.tup (fun _ _ e=>e)⟩,fun q=>?_⟩;rw[hk] at q;rcases q with q | q <;> cases q
   · rename_i q;have ne:nm'≠nm:=fun e=>by subst e; exact q (hNT _ _ _ hx q1)
     refine⟨fun z=>?_,fun z=>?_⟩
     · obtain⟨v',u1,u2⟩:=(z2 x' nm' d' q1 q2).1 z;exact⟨v',by rw[if_neg ne,em]; exact u1,u2.mono k.tup (fun _ _ e=>e)⟩
     · obtain⟨c',v',u1,u2,u3⟩:=(z2 x' nm' d' q1 q2).2 z;exact⟨c',v',u1,k.cell u2,u3.mono k.tup (fun _ _ e=>e)⟩
 · intro q;have n2:=nd.2.1;rw[List.map_cons,List.nodup_cons] at n2;exact n2.1 (List.mem_map.mpr ⟨g,hg,q⟩)
 · rw[sb.2 b]; exact R.base b ob eb;intro q2; subst q2;rw[low] at eb; cases eb
theorem JN.setLoc {s s':Shared}(R:Jk c ad (f::fs) st s.heap)(sb:Heap.SameBut f.L s.heap s'.heap)(hg:s'.gens=s.gens)(hd:s'.drawn=s.drawn)(ho:s'.os=s.os):JN ad (f::fs) s ad s':=by
 refine⟨fun _ _ e=>e,fun _ e=>.inl e,fun b o e n1 n2=>?_,fun b o eb hb=>?_,hg,hd,ho⟩
 · rw[sb.2 b]; exact e;intro q; subst q; exact n2 (.head _)
 · by_cases q:b=f.L
   · refine Jf fun n1G=>?_;subst q;obtain⟨o2,e2,n1,n2⟩:=R.frames.there f (.head _);obtain rfl:=sjt eb e2;rcases hb with ⟨h1,xs,n,h2⟩ | ⟨v,h2⟩
     · exact absurd h2 (n1 xs n h1)
     · exact absurd h2 (n2 v)
   · rw[sb.2 b q]; exact eb
theorem Jk.only (R:Jk c ad fs st h){j:Nat}{vs:List Nat}(q:c.ν.dg j∈vs):Jk c ad fs (st.only j vs) h:=by
 refine⟨R.dense,R.len,R.objs,R.link,R.nodup,R.frames,R.low,R.base,fun i l e=>?_,R.root⟩;replace e:Js (Jkq st.dom j vs) i=some l:=e;rw[JG,JfB,List.getElem?_set] at e;split at e
 · rename_i z;subst z;split at e
   · obtain rfl:=Jp e; exact q
   · exact fo e
 · exact R.dom i l (by rw[JG]; exact e)
theorem Jk.into (R:Jk c ad fs st h){l:Loc}(x:Ja6 c.ν ad h f l)(hf:f.L ∉ ad∧f.L ∉ fs.map (·.L))(lo:c.h₀.get? f.L=none):Jk c ad (f::fs) (st.push l) h:=by
 refine⟨R.dense,R.len,R.objs,R.link,?_,⟨_,_,rfl,x,R.frames⟩,fun g hg=>?_,R.base,R.dom,R.root⟩
 · have n:=List.nodup_append.mp R.nodup;rw[List.nodup_append];refine⟨n.1,by rw[List.map_cons,List.nodup_cons]; exact⟨hf.2,n.2.1⟩,fun a ha b hb=>?_⟩;rcases List.mem_cons.mp hb with rfl | hb
   · intro q; subst q; exact hf.1 ha
   · exact n.2.2 a ha b hb
 · rcases List.mem_cons.mp hg with rfl | hg
   · exact lo
   · exact R.low g hg
theorem Jk.outof (R:Jk c ad (f::fs) st h)(hfs:fs≠[]):∃ l r,st.rest=l::r∧Jk c ad fs (st.pop l r) h:=by
 refine Jf fun n1G=>?_;obtain⟨l,r,er,x,y⟩:=R.frames
 cases er
 cases fs with
 | nil=>exact absurd rfl hfs
 | cons g gs =>
  obtain⟨l2,r2,e2,y2,y3⟩:=y;refine n1G ?_;clear n1G;refine⟨l2,r2,e2,R.dense,R.len,R.objs,R.link,?_,?_,fun g hg=>R.low g (.tail _ hg),R.base,R.dom,R.root⟩
  · have n:=List.nodup_append.mp R.nodup;rw[List.nodup_append];have n2:=n.2.1;rw[List.map_cons,List.nodup_cons] at n2;exact⟨n.1,n2.2,fun a ha b hb=>n.2.2 a ha b (.tail _ hb)⟩
  · exact⟨l2,r2,rfl,y2,y3⟩
theorem JN.outof {s s₁ s':Shared}(x:JN ad (f::fs) s₁ ad' s')(k:∀ b o,s.heap.get? b=some o→s₁.heap.get? b=some o)(hf:s.heap.get? f.L=none)
  (hg:s₁.gens=s.gens) (hd:s₁.drawn=s.drawn) (ho:s₁.os=s.os):JN ad fs s ad' s':=by
 refine⟨x.pre,fun a e=>(x.newer a e).imp id fun e=>?_,fun b o e n1 n2=>x.keep b o (k b o e) n1 fun q=>?_,(JaB.of_all k).trans x.kept,x.gens.trans hg,x.drawn.trans hd,x.os.trans ho⟩
 · cases q:s.heap.get? a with
   | none=>rfl
   | some o=>rw[k a o q] at e; cases e
 · rcases List.mem_cons.mp q with rfl | q
   · rw[hf] at e; cases e
   · exact n2 q
theorem JN.trans {ad'':List Addr}{s s' s'':Shared}(x:JN ad fs s ad' s')(R:Jk c ad' fs st s'.heap)(y:JN ad' fs s' ad'' s''):JN ad fs s ad'' s'' where
 pre:=fun i a e=>y.pre i a (x.pre i a e)
 newer:=fun a e=>(y.newer a e).elim (fun e=>x.newer a e) fun e=>.inr (Jqn x.keep (fun b hb=>by
  obtain⟨i,hi⟩:=List.mem_iff_getElem?.mp hb;exact R.old (List.mem_iff_getElem?.mpr ⟨i,x.pre i b hi⟩)) (fun b hb=>by
  obtain⟨g,hg,rfl⟩:=List.mem_map.mp hb;exact R.frames.there g hg) e)
 keep:=fun b o e n1 n2=>y.keep b o (x.keep b o e n1 n2) (fun q=>(x.newer b q).elim n1 fun q=>by rw[e] at q; cases q) n2
 kept:=x.kept.trans y.kept
 gens:=y.gens.trans x.gens
 drawn:=y.drawn.trans x.drawn
 os:=y.os.trans x.os
theorem Jk.list0 {i:Nat}{l:List D}{a:Addr}(R:Jk c ad fs st h)(g:st.objs.get i=some (.list 0 l))(ha:ad[i]?=some a):E1 (fun (vs:List Value)=>h.PlainList a vs.toArray) fun vs=>Je.goL c.ν ad h l vs:=by
 refine Jf fun n1G=>?_;obtain⟨a',h1,h2,_⟩:=R.objs _ _ g;obtain rfl:=sjt ha h1;obtain⟨items,v1,v2,g1,g2,g3,g4⟩:=h2;have g3:v1=[]:=g3;subst g3;have:items=v2.toArray:=by rw[← Array.toList_inj,g2]; rfl
 subst this;exact n1G ⟨v2,g1,g4⟩
end
theorem nbq {a b:Nat}(h:Nat.beq a b=true):a=b:=Nat.eq_of_beq_eq_true h
theorem JbS {a b:Int}:iEq a b=true↔a=b:=by
 cases a <;> cases b
 · exact⟨fun h=>congrArg _ (nbq h),fun h=>by cases h; exact Nat.beq_refl _⟩
 · exact⟨fun h=>ff h,fun h=>by cases h⟩
 · exact⟨fun h=>ff h,fun h=>by cases h⟩
 · exact⟨fun h=>congrArg _ (nbq h),fun h=>by cases h; exact Nat.beq_refl _⟩
theorem JkQ (a b:Int):iEq a b=decide (a=b):=by
 rw[Bool.eq_iff_iff,JbS,decide_eq_true_iff]
theorem Ja {a b:Bool}:Jh a b=true↔a=true∧b=true:=by cases a <;> cases b <;> simp[Jh]
theorem Jbj (a:Bool):Jaz a=!a:=by cases a <;> rfl
theorem JlC {a b:Bool}:bEq a b=true↔a=b:=by
 cases a <;> cases b <;> first | exact⟨fun _=>rfl,fun _=>rfl⟩ | exact⟨fun h=>ff h,fun h=>by cases h⟩
theorem IE.same_eq:∀ {a b:IE},IE.same a b=true→a=b
 | .lit a,b,h=>by
  cases b with
  | lit b=>exact congrArg _ (JbS.mp h)
  | _=>exact ff h
 | .var s a,b,h=>by
  cases b with
  | var t b =>
   obtain⟨h1,h2⟩:=Ja.mp (show Jh (Nat.beq s t) (iEq a b)=true from h);rw[nbq h1,JbS.mp h2]
  | _=>exact ff h
 | .op k a b,c,h=>by
  cases c with
  | op k' a' b' =>
   obtain⟨h1,h2⟩:=Ja.mp (show Jh (Nat.beq k k') (Jh (IE.same a a') (IE.same b b'))=true from h);obtain⟨h2,h3⟩:=Ja.mp h2;rw[nbq h1,IE.same_eq h2,IE.same_eq h3]
  | _=>exact ff h
theorem SE.same_eq:∀ {a b:SE},SE.same a b=true→a=b
 | .lit a,b,h=>by
  cases b with
  | lit b=>exact congrArg _ (JbB.mp h)
  | _=>exact ff h
 | .var s,b,h=>by
  cases b with
  | var b=>exact congrArg _ (nbq h)
  | _=>exact ff h
 | .cat a b,c,h=>by
  cases c with
  | cat a' b' =>
   obtain⟨h1,h2⟩:=Ja.mp (show Jh (SE.same a a') (SE.same b b')=true from h);rw[SE.same_eq h1,SE.same_eq h2]
  | _=>exact ff h
 | .ofInt a,b,h=>by
  cases b with
  | ofInt b=>exact congrArg _ (IE.same_eq h)
  | _=>exact ff h
theorem IE.eq?_ok {ν:Vl}{a b:IE}{r:Bool}(h:IE.eq? a b=some r):decide (a.val ν=b.val ν)=r:=by
 cases a with
 | lit x =>
  cases b with
  | lit y=>rw[← Jp h,JkQ]; rfl
  | _=>exact fo h
 | var s x =>
  cases b with
  | var t y =>
   obtain⟨q,h⟩:=bmO (show (match Nat.beq s t with | true=>some (iEq x y) | false=>none)=some r from h);rw[← Jp h,JkQ,nbq q];exact decide_eq_decide.mpr (Int.add_right_inj _)
  | _=>exact fo h
 | op k x y =>
  obtain⟨q,h⟩:=bmO (show (match IE.same (.op k x y) b with | true=>some true | false=>none)=some r from h);obtain rfl:=Jp h;rw[← IE.same_eq q,decide_eq_true_iff]
theorem SE.eq?_ok {ν:Vl}{a b:SE}{r:Bool}(h:SE.eq? a b=some r):decide (a.val ν=b.val ν)=r:=by
 have gen:(match SE.same a b with | true=>some true | false=>none)=some r→decide (a.val ν=b.val ν)=r:=fun h=>by
  obtain⟨q,h⟩:=bmO h;obtain rfl:=Jp h;rw[SE.same_eq q,decide_eq_true_iff]
 cases a with
 | lit x =>
  cases b with
  | lit y =>
   obtain rfl:=Jp h;show decide (x=y)=sEq x y;rw[Bool.eq_iff_iff,decide_eq_true_iff];exact JbB.symm
  | _=>exact gen h
 | _=>exact gen h
mutual
theorem JaZ:∀ {a b:D},Jap a b=true→a=b
 | .none,b,h=>by cases b <;> first | rfl | exact ff h
 | .bool x,b,h=>by
  cases b with
  | bool y=>exact congrArg _ (JlC.mp h)
  | _=>exact ff h
 | .int x,b,h=>by
  cases b with
  | int y=>exact congrArg _ (IE.same_eq h)
  | _=>exact ff h
 | .str x,b,h=>by
  cases b with
  | str y=>exact congrArg _ (SE.same_eq h)
  | _=>exact ff h
 | .tup l,b,h=>by
  cases b with
  | tup y=>exact congrArg _ (Jc9 h)
  | _=>exact ff h
 | .obj i,b,h=>by
  cases b with
  | obj y=>exact congrArg _ (nbq h)
  | _=>exact ff h
 | .tab i l,b,h=>by
  cases b with
  | tab j r =>
   obtain⟨q,h⟩:=bmT (show (match Nat.beq i j with | true=>Jap.goR l r | false=>false)=true from h);rw[nbq q,Jhr h]
  | _=>exact ff h
 | .opq _,b,h=>ff h
theorem Jc9:∀ {a b:List D},Jap.goT a b=true→a=b
 | [],b,h=>by cases b <;> first | rfl | exact ff h
 | x::l,b,h=>by
  cases b with
  | nil=>exact ff h
  | cons y r =>
   obtain⟨q,h⟩:=bmT (show (match Jap x y with | true=>Jap.goT l r | false=>false)=true from h);rw[JaZ q,Jc9 h]
theorem Jhr:∀ {a b:List (Nat×D)},Jap.goR a b=true→a=b
 | [],b,h=>by cases b <;> first | rfl | exact ff h
 | (v,x)::l,b,h=>by
  cases b with
  | nil=>exact ff h
  | cons p r =>
   obtain⟨u,y⟩:=p;obtain⟨z,h⟩:=bmT (show (match Nat.beq v u with | true=>(match Jap x y with | true=>Jap.goR l r | false=>false) | false=>false)=true from h);obtain⟨q,h⟩:=bmT h;rw[nbq z,JaZ q,Jhr h]
end
def Jaj (ν:Vl)(dm:JP):Prop:=∀ j l,Js dm j=some l→ν.dg j∈l
theorem Jaj.only {ν:Vl}{dm:JP}(x:Jaj ν dm)(j:Nat):Jaj ν (only dm j (ν.dg j)):=fun i l e=>by
 unfold Mine.only at e;rw[JG,JfB,List.getElem?_set] at e;split at e
 · rename_i z;subst z;split at e
   · obtain rfl:=Jp e; exact .head _
   · cases e
 · exact x i l (by rw[JG]; exact e)
theorem Jaj.mem {ν:Vl}{dm:JP}(x:Jaj ν dm){j:Nat}(ne:J5 dm j≠[]):ν.dg j∈J5 dm j:=by
 unfold J5 at ne ⊢
 cases e:Js dm j with
 | some l=>exact x j l e
 | none=>rw[e] at ne; exact absurd rfl ne
section
variable {ν:Vl}{ad:List Addr}{h:Heap}
theorem Jjj {j:Nat}{r:List (Nat×D)}{d x:D}{v:Value}(e:Jhl j r=some d)(q:lkp r (ν.dg j)=some x)(z:Je ν ad h x v):Je ν ad h d v:=by
 cases r with
 | nil=>cases e
 | cons p r =>
  obtain⟨u,y⟩:=p;rcases bm (show (match Jlh y r with | true=>some y | false=>some (.tab j ((u,y)::r)))=some d from e) with ⟨a,e⟩ | ⟨a,e⟩
  · obtain rfl:=Jp e;suffices x=y by rw[← this]; exact z
    rw[JJ] at q;split at q
    · cases q; rfl
    · have all:=Jn a;have:∀ {r:List (Nat×D)}{u:Nat},lkp r u=some x→∃ p∈r,p.2=x:=by
       intro r
       induction r with
       | nil=>intro u e; cases e
       | cons p r ih =>
        intro u e;obtain⟨k,w⟩:=p;rw[JJ] at e;split at e
        · obtain rfl:=Jp e; exact⟨_,.head _,rfl⟩
        · obtain⟨p,h1,h2⟩:=ih e; exact⟨p,.tail _ h1,h2⟩
      obtain⟨p,h1,h2⟩:=this q;have s:=all p h1;rw[h2] at s;exact (JaZ s).symm
  · obtain rfl:=Jp e;exact JbA.mpr ⟨x,q,z⟩
theorem JeP {β:Type}{dm:JP}{j:Nat}{l:List (Nat×D)}{f:JP→D→Option β}{v:Nat}{b:β}(e:Jih dm j l f v=some b):∃ x,lkp l v=some x∧f (only dm j v) x=some b:=by
 obtain⟨x,q,e⟩:=odO e;exact⟨x,q,e⟩
theorem Jjg {dm:JP}{j:Nat}{l:List (Nat×D)}{f:JP→D→Option D}{v:Nat}{p:Nat×D}(e:Joj dm j l f v=some p):∃ x y,lkp l v=some x∧f (only dm j v) x=some y∧p=(v,y):=by
 refine Jf fun n1G=>?_;obtain⟨y,q,e⟩:=odO e;obtain⟨x,h1,h2⟩:=JeP q;exact n1G ⟨x,y,h1,h2,(Jp e).symm⟩
theorem JfF {g:Nat→Option (Nat×D)}(hg:∀ v p,g v=some p→p.1=v):∀ {vs:List Nat}{r:List (Nat×D)},Jeh g vs=some r→∀ u∈vs,∃ y,g u=some (u,y)∧lkp r u=some y
 | [],_,_,_,q=>nomatch q
 | v::vs,r,e,u,q=>by
  obtain⟨p,l,h1,h2,rfl⟩:=Jg1 e;obtain⟨k,y⟩:=p;have:=hg v _ h1;simp only at this;subst this;rw[JJ];by_cases z:k=u
  · subst z; exact⟨y,h1,by rw[if_pos rfl]⟩
  · rw[if_neg z];exact JfF hg h2 u ((List.mem_cons.mp q).resolve_left fun e=>z e.symm)
theorem Jj8 {β:Type}{j:Nat}{dm:JP}{g:Nat→Option β}{r:List β}(e:Jeh g (J5 dm j)=some r)(ne:r≠[]):J5 dm j≠[]:=fun q=>by
 (rw[q] at e; obtain rfl:=Jp e)
 exact ne rfl
def Jfu (ν:Vl)(P:Value→D→Prop):Prop:=∀ v r r',(∀ ad h u,Je ν ad h r u→Je ν ad h r' u)→P v r→P v r'
theorem Jml {j:Nat}{r:List (Nat×D)}{d x:D}(e:Jhl j r=some d)(q:lkp r (ν.dg j)=some x):∀ ad h u,Je ν ad h x u→Je ν ad h d u:=fun _ _ _ z=>Jjj e q z
theorem Jbr {P:Value→D→Prop}(cl:Jfu ν P){f:JP→D→Option D}(hf:∀ dm x r,Jaj ν dm→f dm x=some r→∀ v,Je ν ad h x v→P v r) :
  ∀ (n:Nat) {dm:JP}{d r:D},Jaj ν dm→JbP f n dm d=some r→∀ {v},Je ν ad h d v→P v r
 | 0,_,_,_,_,e,_,_=>by cases e
 | n+1,dm,d,r,ok,e,v,x=>by
  refine Jf fun n1G=>?_;have e:Jji f (JbP f n) dm d=some r:=e
  cases d with
  | tab j l =>
   obtain⟨rows,q,e⟩:=otO (show (match Jeh (Joj dm j l (JbP f n)) (J5 dm j) with | some r=>Jhl j r | none=>none)=some r from e);have ne:rows≠[]:=fun z=>by rw[z] at e; exact fo e
   have mem:=ok.mem (Jj8 q ne);obtain⟨y,h1,h2⟩:=JfF (fun v p z=>by obtain⟨_,_,_,_,rfl⟩:=Jjg z; rfl) q _ mem;obtain⟨x0,y0,g1,g2,g3⟩:=Jjg h1
   cases g3
   obtain⟨x1,k1,k2⟩:=JbA.mp (show Je.goR ν ad h (ν.dg j) l v from x);obtain rfl:=sjt g1 k1;exact n1G (cl v _ _ (Jml e h2) (Jbr cl hf n (ok.only j) g2 k2))
  | _ =>
   exact n1G (hf dm _ r ok e v x)
theorem Jcc {P:Value→Value→D→Prop}(cl:∀ v,Jfu ν (P v)){f:JP→D→D→Option D}(hf:∀ dm x y r,Jaj ν dm→f dm x y=some r→∀ v u,Je ν ad h x v→Je ν ad h y u→P v u r)
  {dm:JP}{a b r:D} (ok:Jaj ν dm) (e:Je2 f dm a b=some r) {v u:Value} (x:Je ν ad h a v) (y:Je ν ad h b u):P v u r :=
 Jbr (P:=fun v r=>P v u r) (fun v r r' i p=>cl v u r r' i p)
  (fun dm x r ok e v hv=>Jbr (P:=fun u r=>P v u r) (cl v) (fun dm y r ok e u hu=>hf dm x y r ok e v u hv hu) 8 ok e y) 8 ok e x
theorem Jkx:∀ (n:Nat) {dm:JP}{d:D},Jaj ν dm→∀ {v},Je ν ad h d v→Je ν ad h (nrm n dm d) v
 | 0,_,_,_,_,x=>x
 | n+1,dm,d,ok,v,x=>by
  cases d with
  | tab j l =>
   show Je ν ad h (match J5 dm j with
    | [v]=>match lkp l v with | some x=>nrm n dm x | none=>.tab j l
    | _=>.tab j l) v
   cases q:J5 dm j with
   | nil=>exact x
   | cons u r =>
    cases r with
    | cons _ _=>exact x
    | nil =>
     show Je ν ad h (match lkp l u with | some x=>nrm n dm x | none=>.tab j l) v
     cases z:lkp l u with
     | none=>exact x
     | some y =>
      refine Jf fun n1G=>?_;have mem:=ok.mem (j:=j) (by rw[q]; exact List.cons_ne_nil _ _);rw[q] at mem
      cases List.mem_singleton.mp mem
      obtain⟨x1,k1,k2⟩:=JbA.mp (show Je.goR ν ad h (ν.dg j) l v from x);obtain rfl:=sjt z k1;exact n1G (Jkx n ok k2)
  | _=>exact x
mutual
theorem Jgo {j:Nat}:∀ {d x:D}{v:Value},Jbh j (ν.dg j) d=some x→Je ν ad h d v→Je ν ad h x v
 | .tab i l,x,v,e,z=>by
  rcases bm (show (match Nat.beq i j with | true=>lkp l (ν.dg j) | false=>some (.tab i l))=some x from e) with ⟨q,e⟩ | ⟨q,e⟩
  · obtain rfl:=nbq q;obtain⟨x1,k1,k2⟩:=JbA.mp (show Je.goR ν ad h (ν.dg i) l v from z);obtain rfl:=sjt e k1;exact k2
  · obtain rfl:=Jp e; exact z
 | .tup l,x,v,e,⟨a,items,e1,t,z⟩=>by
  obtain⟨r,q,e⟩:=olO (show (match Jbh.go j (ν.dg j) l with | some l=>some (.tup l) | none=>none)=some x from e);obtain rfl:=Jp e;exact⟨a,items,e1,t,JeS q z⟩
 | .none,x,v,e,z=>by obtain rfl:=Jp e; exact z
 | .bool _,x,v,e,z=>by obtain rfl:=Jp e; exact z
 | .int _,x,v,e,z=>by obtain rfl:=Jp e; exact z
 | .str _,x,v,e,z=>by obtain rfl:=Jp e; exact z
 | .obj _,x,v,e,z=>by obtain rfl:=Jp e; exact z
 | .opq _,x,v,e,z=>by obtain rfl:=Jp e; exact z
theorem JeS {j:Nat}:∀ {l r:List D}{vs:List Value},Jbh.go j (ν.dg j) l=some r→Je.goL ν ad h l vs→Je.goL ν ad h r vs
 | [],r,vs,e,z=>by obtain rfl:=Jp e; exact z
 | d::l,r,vs,e,⟨v,vs',e1,x,z⟩=>by
  have e:(match Jbh j (ν.dg j) d,Jbh.go j (ν.dg j) l with | some x,some r=>some (x::r) | _,_=>none)=some r:=e
  cases q1:Jbh j (ν.dg j) d with
  | none=>rw[q1] at e; exact fo e
  | some x' =>
   cases q2:Jbh.go j (ν.dg j) l with
   | none=>rw[q1,q2] at e; exact fo e
   | some r' =>
    rw[q1,q2] at e;obtain rfl:=Jp e;exact⟨v,vs',e1,Jgo q1 x,JeS q2 z⟩
end
theorem JfT {ih:JP→D→Option D}{dm:JP}{j v:Nat}{d:D}{p:Nat×D}(z:JhL ih dm j d v=some p):E2 (fun x _=>Jbh j v d=some x) (fun x y=>ih (only dm j v) x=some y) fun _ y=>p=(v,y):=by
 refine Jf fun n1G=>?_;obtain⟨x,q,z⟩:=odO z;obtain⟨y,q2,z⟩:=odO z;exact n1G ⟨x,y,q,q2,(Jp z).symm⟩
theorem Jfs:∀ (n:Nat) {dm:JP}{d r:D},Jaj ν dm→Jvi n dm d=some r→∀ {v},Je ν ad h d v→Je ν ad h r v
 | 0,_,_,_,_,e,_,x=>by cases e; exact x
 | n+1,dm,d,r,ok,e,v,x=>by
  cases d with
  | tup l =>
   have e:(match Jd9 (.tup l) with
    | some j=>match Jeh (JhL (Jvi n) dm j (.tup l)) (J5 dm j) with
     | some r=>Jhl j r
     | none=>none
    | none=>some (.tup l))=some r:=e
   cases q:Jd9 (.tup l) with
   | none=>rw[q] at e; obtain rfl:=Jp e; exact x
   | some j =>
    refine Jf fun n1G=>?_;rw[q] at e;obtain⟨rows,q2,e⟩:=otO e;have ne:rows≠[]:=fun z=>by rw[z] at e; exact fo e
    have mem:=ok.mem (Jj8 q2 ne);obtain⟨y,h1,h2⟩:=JfF (fun v p z=>by obtain⟨_,_,_,_,rfl⟩:=JfT z; rfl) q2 _ mem;obtain⟨x',y',q3,q4,q5⟩:=JfT h1
    cases q5
    exact n1G (Jjj e h2 (Jfs n (ok.only j) q4 (Jgo q3 x)))
  | _=>obtain rfl:=Jp e; exact x
end
noncomputable def D.dat (ν:Vl):D→PyData
 | .none=>.none
 | .bool b=>.bool b
 | .int e=>.int (e.val ν)
 | .str s=>.str (s.val ν)
 | .tup l=>.tuple (go ν l)
 | .tab j l=>goR ν (ν.dg j) l
 | .obj _=>.none
 | .opq _=>.none
where
 go (ν:Vl):List D→List PyData
  | []=>[]
  | d::l=>D.dat ν d::go ν l
 goR (ν:Vl) (u:Nat):List (Nat×D)→PyData
  | []=>.none
  | (k,d)::r=>if k=u then D.dat ν d else goR ν u r
theorem D.dat_row {ν:Vl}{u:Nat}{x:D}:∀ {l:List (Nat×D)},lkp l u=some x→D.dat.goR ν u l=x.dat ν
 | [],e=>by cases e
 | (k,d)::r,e=>by
  rw[JJ] at e;show (if k=u then D.dat ν d else D.dat.goR ν u r)=_;split at e
  · rename_i q; obtain rfl:=Jp e; rw[if_pos q]
  · rename_i q; rw[if_neg q]; exact D.dat_row e
theorem JaD {α:Type}{u:Nat}{x:α}:∀ {l:List (Nat×α)},lkp l u=some x→(u,x)∈l
 | [],e=>by cases e
 | (k,d)::r,e=>by
  rw[JJ] at e;split at e
  · rename_i q; obtain rfl:=Jp e; rw[q]; exact .head _
  · exact .tail _ (JaD e)
theorem Je.isP {ν:Vl}{ad:List Addr}{h:Heap}:∀ (n:Nat) {d:D}{v:Value},Jce n d=true→Je ν ad h d v→IsP h (d.dat ν) v∧(d.dat ν).canLay0=true∧(d.dat ν).depth≤n
 | 0,_,_,e,_=>by cases e
 | n+1,d,v,e,x=>by
  refine Jf fun n1G=>?_;have e:Jlr (Jce n) d=true:=e
  cases d with
  | none =>
   exact n1G ⟨x,rfl,Nat.zero_le _⟩
  | bool b =>
   exact n1G ⟨x,rfl,Nat.zero_le _⟩
  | int i =>
   exact n1G ⟨x,rfl,Nat.zero_le _⟩
  | str s =>
   exact n1G ⟨x.1,x.2,Nat.zero_le _⟩
  | tup l =>
   obtain⟨a,items,e1,t,z⟩:=x;have all:=Jn e;have:∀ {l:List D}{vs:List Value},(∀ x∈l,Jce n x=true)→Je.goL ν ad h l vs→IsP.go h (D.dat.go ν l) vs∧PyData.canLayAll0 (D.dat.go ν l)=true∧PyData.depthAll (D.dat.go ν l)≤n:=by
    intro l
    induction l with
    | nil=>intro vs _ z; exact⟨z,rfl,Nat.zero_le _⟩
    | cons d l ih =>
     rintro vs al ⟨v,r,q,y,z⟩;refine Jf fun n2G=>?_;obtain⟨i1,i2,i3⟩:=ih (fun x hx=>al x (.tail _ hx)) z;obtain⟨j1,j2,j3⟩:=Je.isP n (al d (.head _)) y;refine n2G ?_;clear n2G;refine⟨⟨v,r,q,j1,i1⟩,?_,?_⟩
     · exact (Bool.and_eq_true _ _).mpr ⟨j2,i2⟩
     · exact Nat.max_le.mpr ⟨j3,i3⟩
   obtain⟨i1,i2,i3⟩:=this all z;refine n1G ?_;clear n1G;refine⟨⟨a,items,e1,t,i1⟩,?_,?_⟩
   · exact i2
   · exact Nat.succ_le_succ i3
  | obj i=>cases e
  | tab j l =>
   obtain⟨x1,k1,k2⟩:=JbA.mp (show Je.goR ν ad h (ν.dg j) l v from x);have all:=Jn e;have q:=Je.isP n (all _ (JaD k1)) k2;refine n1G ?_;clear n1G;show IsP h (D.dat.goR ν (ν.dg j) l) v∧(D.dat.goR ν (ν.dg j) l).canLay0=true∧(D.dat.goR ν (ν.dg j) l).depth≤n+1;rw[D.dat_row k1];exact⟨q.1,q.2.1,Nat.le_succ_of_le q.2.2⟩
  | opq t=>cases e
theorem Je.isPs {ν:Vl}{ad:List Addr}{h:Heap}{n:Nat}:∀ {l:List D}{vs:List Value},(∀ x∈l,Jce n x=true)→Je.goL ν ad h l vs→IsP.go h (D.dat.go ν l) vs∧PyData.canLayAll0 (D.dat.go ν l)=true∧PyData.depthAll (D.dat.go ν l)≤n
 | [],vs,_,z=>⟨z,rfl,Nat.zero_le _⟩
 | d::l,vs,al,⟨v,r,q,y,z⟩=>by
  refine Jf fun n1G=>?_;obtain⟨i1,i2,i3⟩:=Je.isPs (fun x hx=>al x (.tail _ hx)) z;obtain⟨j1,j2,j3⟩:=Je.isP n (al d (.head _)) y;refine n1G ?_;clear n1G;refine⟨⟨v,r,q,j1,i1⟩,?_,?_⟩
  · exact (Bool.and_eq_true _ _).mpr ⟨j2,i2⟩
  · exact Nat.max_le.mpr ⟨j3,i3⟩
theorem JeB {x:PyData}{n:Nat}(a:x.canLay0=true)(b:x.depth≤n)(c:n≤64):SeqAt.shaped x=true:=by
 unfold SeqAt.shaped;rw[a,Bool.true_and,decide_eq_true_iff];omega
theorem Jgv:∀ {l:List (Option Bool)}{r:Bool},Jhw l=some r→∀ x∈l,x=some r
 | [],r,e,x,q=>nomatch q
 | [y],r,e,x,q=>by cases List.mem_singleton.mp q; exact e
 | y::z::l,r,e,x,q=>by
  have e:@Option.rec Bool (fun _=>Option Bool) none (fun a=>@Option.rec Bool (fun _=>Option Bool) none (fun b=>@Bool.rec (fun _=>Option Bool) (@Bool.rec (fun _=>Option Bool) (some false) none b) (@Bool.rec (fun _=>Option Bool) none (some true) b) a) (Jhw (z::l))) y=some r:=e
  cases y with
  | none=>cases e
  | some a =>
   cases w:Jhw (z::l) with
   | none=>rw[w] at e; cases e
   | some b =>
    rw[w] at e;have:a=r∧b=r:=by cases a <;> cases b <;> cases e <;> exact⟨rfl,rfl⟩
    obtain⟨rfl,rfl⟩:=this;rcases List.mem_cons.mp q with q | q
    · exact q
    · exact Jgv w x q
theorem JjY {l:List (Option Bool)}{r:Bool}(e:Jhw l=some r):l≠[]:=fun q=>by rw[q] at e; cases e
theorem Jkn {ν:Vl}{f:D→D→Option Bool}(hf:∀ a b r,f a b=some r→PyData.eqv (a.dat ν) (b.dat ν)=r):∀ {l m:List D}{r:Bool},goE f l m=some r→PyData.eqvAll (D.dat.go ν l) (D.dat.go ν m)=r
 | [],[],r,e=>by cases e; rfl
 | [],_::_,r,e=>by cases e; rfl
 | a::l,[],r,e=>by cases e; rfl
 | a::l,b::m,r,e=>by
  have e:@Option.rec Bool (fun _=>Option Bool) none (fun c=>@Bool.rec (fun _=>Option Bool) (some false) (goE f l m) c) (f a b)=some r:=e;show (PyData.eqv (a.dat ν) (b.dat ν)&&PyData.eqvAll (D.dat.go ν l) (D.dat.go ν m))=r
  cases q:f a b with
  | none=>rw[q] at e; cases e
  | some c =>
   rw[q] at e;rw[hf a b c q]
   cases c with
   | false=>obtain rfl:=Jp e; rfl
   | true=>rw[Bool.true_and]; exact Jkn hf e
theorem JcN {ν:Vl}:∀ (n:Nat) {dm:JP}{a b:D}{r:Bool},Jaj ν dm→eqD n dm a b=some r→PyData.eqv (a.dat ν) (b.dat ν)=r
 | 0,_,_,_,_,_,e=>by cases e
 | n+1,dm,a,b,r,ok,e=>by
  have e:Jo3 (eqD n) dm a b=some r:=e;have tabB:∀ {j l},JdC (eqD n) dm a j l=some r→PyData.eqv (a.dat ν) ((D.tab j l).dat ν)=r:=by
   intro j l e;unfold JdC at e;have ne:=JjY e;have mem:=ok.mem (j:=j) fun q=>ne (by rw[q]; rfl);obtain⟨x,k1,k2⟩:=JeP (Jgv e _ (List.mem_map.mpr ⟨_,mem,rfl⟩));show PyData.eqv (a.dat ν) (D.dat.goR ν (ν.dg j) l)=r;rw[D.dat_row k1];exact JcN n (ok.only j) k2
  have oi:∀ (i j:Int),(i==j)=decide (i=j):=fun i j=>rfl
  cases a with
  | tab j l =>
   have e:JoA (eqD n) dm j l b=some r:=e;unfold JoA at e;have ne:=JjY e;have mem:=ok.mem (j:=j) fun q=>ne (by rw[q]; rfl);obtain⟨x,k1,k2⟩:=JeP (Jgv e _ (List.mem_map.mpr ⟨_,mem,rfl⟩));show PyData.eqv (D.dat.goR ν (ν.dg j) l) (b.dat ν)=r;rw[D.dat_row k1];exact JcN n (ok.only j) k2
  | none =>
   cases b <;> first | exact tabB e | (obtain rfl:=Jp e; rfl) | cases e
  | bool x =>
   cases b with
   | bool y=>cases x <;> cases y <;> (obtain rfl:=Jp e; rfl)
   | tab j l=>exact tabB e
   | _=>cases e
  | int x =>
   cases b with
   | int y=>exact IE.eq?_ok e
   | tab j l=>exact tabB e
   | none=>obtain rfl:=Jp e; rfl
   | _=>cases e
  | str x =>
   cases b with
   | str y =>
    show (x.val ν==y.val ν)=r;rw[← SE.eq?_ok (ν:=ν) e,Bool.eq_iff_iff,decide_eq_true_iff,beq_iff_eq]
   | tab j l=>exact tabB e
   | _=>cases e
  | tup l =>
   cases b with
   | tup m=>exact Jkn (fun a b r e=>JcN n ok e) e
   | tab j l=>exact tabB e
   | none=>obtain rfl:=Jp e; rfl
   | _=>cases e
  | obj i=>cases e
  | opq t=>cases e
theorem JbF {α:Type}:∀ {l:List α}{n:Nat},Jcm l n=true→l.length≤n
 | [],n,_=>Nat.zero_le _
 | x::l,n,e=>by
  have e:@Bool.rec (fun _=>Bool) (Jcm l (Nat.pred n)) false (Nat.beq n 0)=true:=e;rw[Jaw] at e;by_cases q:n=0
  · subst q; cases e
  · rw[decide_eq_false q] at e
    cases n with
    | zero=>exact absurd rfl q
    | succ n=>exact Nat.succ_le_succ (JbF e)
theorem Jy {α:Type}{l:List α}(e:JU l=true):l.length≤1000:=JbF e
noncomputable def Jz (A:Around)(n:Nat):Prop:=A.handled=none∧A.depth+n<recursionLimit∧A.units+20*n+100<cLine
theorem Jz.le {A:Around}{n m:Nat}(x:Jz A n)(h:m≤n):Jz A m:=⟨x.1,by have:=x.2.1; omega,by have:=x.2.2; omega⟩
theorem Jz.units {A:Around}{n:Nat}(x:Jz A n):A.units+64<cLine:=by have:=x.2.2; omega
def JF (c:Jx)(n:Nat)(ad:List Addr)(fs:List JH)(st:St)(s:Shared)(t:Sem Value)(r:D):Prop :=
 ∀ A (Q:Value→Shared→Prop),Jz A n→(∀ s' v,Jk c ad fs st s'.heap→JN ad fs s ad s'→Je c.ν ad s'.heap r v→Q v s')→wpAny (model c.prog c.w) A t Q (fun _ _=>False) s
theorem JF.imp {c:Jx}{n:Nat}{ad:List Addr}{fs:List JH}{st:St}{s:Shared}{t:Sem Value}{r r':D}(i:∀ ad h u,Je c.ν ad h r u→Je c.ν ad h r' u)(g:JF c n ad fs st s t r):JF c n ad fs st s t r' :=
 fun A Q hA q=>g A Q hA fun s' v a b x=>q s' v a b (i _ _ _ x)
theorem JF.closed {c:Jx}{n:Nat}{ad:List Addr}{fs:List JH}{st:St}{s:Shared}(t:Value→Sem Value):Jfu c.ν (fun v r=>JF c n ad fs st s (t v) r):=fun _ _ _ i g=>g.imp i
theorem JN.quiet {ad:List Addr}{fs:List JH}{s s':Shared}(h:s'.heap=s.heap)(hg:s'.gens=s.gens)(hd:s'.drawn=s.drawn)(ho:s'.os=s.os):JN ad fs s ad s' :=
 .grow (fun b o e=>by rw[h]; exact e) hg hd ho
theorem Jaq {c:Jx}{ad:List Addr}{fs:List JH}{st:St}{s:Shared}{r:D}{v:Value}{Q:Value→Shared→Prop}(R:Jk c ad fs st s.heap){k:Nat}(x:Je c.ν ad s.heap r v)
  (q:∀ s' v,Jk c ad fs st s'.heap→JN ad fs s ad s'→Je c.ν ad s'.heap r v→Q v s'):Q v { s with toks:=k }:=q _ v R (.quiet rfl rfl rfl rfl) x
theorem JbQ {c:Jx}{ad:List Addr}{fs:List JH}{st:St}{s:Shared}{r:D}{v:Value}{Q:Value→Shared→Prop}(R:Jk c ad fs st s.heap)(x:Je c.ν ad s.heap r v)
  (q:∀ s' v,Jk c ad fs st s'.heap→JN ad fs s ad s'→Je c.ν ad s'.heap r v→Q v s'):Q v s:=q _ v R (.refl _ _ _) x
theorem JbN {ν:Vl}{ad:List Addr}{h:Heap}:∀ {l m:List D}{vs us:List Value},Je.goL ν ad h l vs→Je.goL ν ad h m us→Je.goL ν ad h (l++m) (vs++us)
 | [],_,_,_,x,y=>by have x:_=[]:=x; subst x; exact y
 | d::l,_,_,_,⟨v,r,e,x,z⟩,y=>by subst e; exact⟨v,r++_,rfl,x,JbN z y⟩
theorem Jm {ν:Vl}{ad:List Addr}{h:Heap}:∀ {l:List D}{vs:List Value},Je.goL ν ad h l vs→vs.length=l.length
 | [],_,x=>by have x:_=[]:=x; subst x; rfl
 | d::l,_,⟨v,r,e,x,z⟩=>by subst e; simp[Jm z]
theorem JkM {a b:Str}(x:PyData.strOk a=true)(y:PyData.strOk b=true):PyData.strOk (a++b)=true:=by
 unfold PyData.strOk at *;show (a.cps++b.cps).all _=true;rw[Array.all_append,x,y]; rfl
theorem JoT (x:String):PyData.strOk (Str.ofString x)=true:=by
 rw[Str.ofString_eq_toList];unfold PyData.strOk;simp only[List.all_toArray,List.all_map,List.all_eq_true,Function.comp,decide_eq_true_eq];intro c _;have:=c.valid;unfold UInt32.isValidChar Nat.isValidChar at this;show c.val.toNat<1114112;omega
theorem JfN {a:Int}(h:a.natAbs<1073741824):Builtin.Int.intBits a≤64:=by
 unfold Builtin.Int.intBits;split
 · omega
 · rename_i z;have nz:a.natAbs≠0:=fun e=>z (by rw[Int.natAbs_eq_zero.mp e]; rfl);have:a.natAbs.log2<30:=(Nat.log2_lt nz).mpr h;omega
section
variable {c:Jx}{n:Nat}{ad:List Addr}{fs:List JH}{st:St}{s:Shared}
theorem Jc3 {m:Nat}(e:JcR m=true):m<1073741824:=by
 unfold JcR at e;exact Nat.blt_eq.mp e
theorem Jkz (m n:Nat):Builtin.bitAnd (m:Int) (n:Int)=((m &&& n:Nat):Int):=by
 unfold Builtin.bitAnd;simp
theorem Jmz (m n:Nat):Builtin.bitOr (m:Int) (n:Int)=((m ||| n:Nat):Int):=by
 have e1:∀ k:Nat,Builtin.bitNot (k:Int)=-(k:Int) - 1:=fun k=>rfl;have e2:∀ k:Nat,Builtin.bitNot (-(k:Int) - 1)=(k:Int):=fun k=>by show -(-(k:Int) - 1) - 1=_; omega
 have f:∀ k:Nat,decide ((0:Int)≤-(k:Int) - 1)=false:=fun k=>decide_eq_false (by omega);unfold Builtin.bitOr Builtin.bitAnd;rw[e1,e1,f,f];simp only[e2,Int.toNat_natCast];rw[e1,e2]
theorem Jqw {A:Around}{E:Value→Shared→Prop}{prog:Program}{w:World}{t b:Addr}{vs ws:List Value}{Q:Value→Shared→Prop}(ht:IsTup s.heap t vs.toArray)(hb:IsTup s.heap b ws.toArray)
  (h0:vs=[]→Q (.ref b) s) (h1:vs≠[]→ws=[]→Q (.ref t) s)
  (h2:vs≠[]→ws≠[]→Q (.ref s.heap.objs.size) { s with heap:=s.heap.push { cls:=.type "tuple",data:=.seq (vs++ws).toArray } })
  (hsz:vs.length+ws.length≤sizeLine) :
  wpAny (model prog w) A (binaryOp .Add (.ref t) (.ref b)) Q E s:=by
 refine Jf fun n1G=>?_;obtain⟨⟨cls,dd,data,sl⟩,ho,hc,n,hd⟩:=id ht;obtain⟨⟨cls2,dd2,data2,sl2⟩,ho2,hc2,n2,hd2⟩:=id hb;simp only at hc hd hc2 hd2;subst hc hd hc2 hd2;have e:vs.toArray++ws.toArray=(vs++ws).toArray:=by simp
 by_cases hv:vs=[]
 · refine n1G ?_;clear n1G;exact concat_meets ⟨_,ho,rfl⟩ ⟨_,ho2,rfl⟩ noFill_tuple_add seq_tuple_add PySem.F.slot_tuple_add PySem.F.entry_tuple_add (PySem.F.args_tuple_add_2 _ _)
    (tuple_addW0 t b vs.toArray ws.toArray n n2 dd dd2 sl sl2 (by simp[hv])) ⟨ho,ho2,h0 hv⟩
 · by_cases hw:ws=[]
   · refine n1G ?_;clear n1G;exact concat_meets ⟨_,ho,rfl⟩ ⟨_,ho2,rfl⟩ noFill_tuple_add seq_tuple_add PySem.F.slot_tuple_add PySem.F.entry_tuple_add (PySem.F.args_tuple_add_2 _ _)
      (tuple_addW1 t b vs.toArray ws.toArray n n2 dd dd2 sl sl2 (by simpa using hv) (by simp[hw])) ⟨ho,ho2,h1 hv hw⟩
   · refine n1G ?_;clear n1G;refine concat_meets ⟨_,ho,rfl⟩ ⟨_,ho2,rfl⟩ noFill_tuple_add seq_tuple_add PySem.F.slot_tuple_add PySem.F.entry_tuple_add (PySem.F.args_tuple_add_2 _ _)
      (tuple_addW2 t b vs.toArray ws.toArray n n2 dd dd2 sl sl2 (by simpa using hv) (by simpa using hw) (by rw[List.size_toArray,List.size_toArray]; exact hsz)) ⟨ho,ho2,?_⟩
     rw[e];exact h2 hv hw
theorem Jfv (h:Heap)(vs:List Value):(h.push { cls:=.type "tuple",data:=.seq vs.toArray }).IsTuple h.objs.size vs.toArray :=
 ⟨_,Heap.get?_push_size _ rfl,rfl,_,rfl⟩
theorem Jam (h:Heap)(o:Obj):JC h (h.push o):=fun _ _ e _=>Heap.get?_push_of_some _ e
theorem Jh9 {ν:Vl}{k:Nat}(h:k≠0):(IE.lit (Int.ofNat k)).val ν≠0:=fun q=>h (Int.ofNat.inj q)
theorem JiE {ν:Vl}{k:Nat}(h:k<1073741824):((IE.lit (Int.ofNat k)).val ν).natAbs<1073741824:=h
inductive ArI (op:Operator)(a b r:Int):Prop where
 | add (h:op=.Add) (z:a+b=r)
 | sub (h:op=.Sub) (z:a - b=r)
 | mul (h:op=.Mult) (m:a.natAbs<1073741824∨b.natAbs<1073741824) (z:a*b=r)
 | div (h:op=.FloorDiv) (n:b≠0) (m:b.natAbs<1073741824) (z:Int.fdiv a b=r)
 | mod (h:op=.Mod) (n:b≠0) (z:Int.fmod a b=r)
 | band (h:op=.BitAnd) (z:Builtin.bitAnd a b=r)
 | bor (h:op=.BitOr) (z:Builtin.bitOr a b=r)
theorem Jg8 {n:Nat}{r e:IE}(h:JuU n r=some e):n≠0∧r=e:=by
 cases n with
 | zero=>exact fo h
 | succ n=>exact⟨Nat.succ_ne_zero n,Jp h⟩
theorem Jk9 {ν:Vl}(op:Operator){m k:Nat}{e:IE}(he:JkA op m k=some e):ArI op ((IE.lit (.ofNat m)).val ν) ((IE.lit (.ofNat k)).val ν) (e.val ν):=by
 unfold JkA at he
 cases sm:Jh (JcR m) (JcR k) with
 | false=>rw[sm] at he; exact fo he
 | true =>
  rw[sm] at he;obtain⟨s1,s2⟩:=Ja.mp sm;have s1:=Jc3 s1;have s2:=Jc3 s2
  cases op with
  | Add=>obtain rfl:=Jp he; exact .add rfl rfl
  | Sub=>obtain rfl:=Jp he; exact .sub rfl (Int.subNatNat_eq_coe ..).symm
  | Mult=>obtain rfl:=Jp he; exact .mul rfl (.inl (JiE s1)) rfl
  | FloorDiv =>
   obtain⟨z,rfl⟩:=Jg8 he;exact .div rfl (Jh9 z) (JiE s2) (Int.fdiv_eq_ediv_of_nonneg _ (Int.natCast_nonneg k))
  | Mod =>
   obtain⟨z,rfl⟩:=Jg8 he;exact .mod rfl (Jh9 z) (Int.fmod_eq_emod_of_nonneg _ (Int.natCast_nonneg k))
  | BitAnd=>obtain rfl:=Jp he; exact .band rfl (Jkz _ _)
  | BitOr=>obtain rfl:=Jp he; exact .bor rfl (Jmz _ _)
  | _=>exact fo he
theorem Jgx {ν:Vl}(op:Operator){i j:Int}{e:IE}(hl:Jk6 op i j=some e):ArI op ((IE.lit i).val ν) ((IE.lit j).val ν) (e.val ν):=by
 cases op with
 | Add=>obtain rfl:=Jp hl; exact .add rfl rfl
 | Sub=>obtain rfl:=Jp hl; exact .sub rfl rfl
 | _=>exact fo hl
theorem JfY {ν:Vl}(op:Operator){x:IE}{i:Int}{e:IE}(hv:JkS op x i=some e):ArI op (x.val ν) ((IE.lit i).val ν) (e.val ν):=by
 cases i with
 | negSucc _=>exact fo hv
 | ofNat k =>
  obtain⟨sm,hv⟩:=bmO hv;obtain⟨s1,s2⟩:=Ja.mp sm;have s1:=Jc3 s1;have s2:k≠0:=fun q=>by subst q; exact ff s2
  cases op with
  | Add=>obtain rfl:=Jp hv; exact .add rfl rfl
  | Mult=>obtain rfl:=Jp hv; exact .mul rfl (.inr (JiE s1)) rfl
  | FloorDiv=>obtain rfl:=Jp hv; exact .div rfl (Jh9 s2) (JiE s1) rfl
  | Mod=>obtain rfl:=Jp hv; exact .mod rfl (Jh9 s2) rfl
  | _=>exact fo hv
theorem JmF {ν:Vl}(op:Operator){x y e:IE}(he:Jkc op x y=some e):ArI op (x.val ν) (y.val ν) (e.val ν):=by
 cases x with
 | lit i =>
  cases y with
  | lit j =>
   cases i with
   | negSucc _=>exact Jgx op he
   | ofNat m =>
    cases j with
    | ofNat k=>exact Jk9 op he
    | negSucc _=>exact Jgx op he
  | var t o =>
   cases op with
   | Add=>obtain rfl:=Jp he; exact .add rfl (Int.add_left_comm ..)
   | _=>exact fo he
  | op _ _ _=>exact fo he
 | var t o =>
  cases y with
  | lit j =>
   cases op with
   | Add=>obtain rfl:=Jp he; exact .add rfl (Int.add_assoc ..)
   | Sub=>obtain rfl:=Jp he; exact .sub rfl (Int.add_sub_assoc ..)
   | _=>exact JfY _ he
  | _=>exact fo he
 | op k u v =>
  cases y with
  | lit j=>exact JfY op he
  | _=>exact fo he
theorem Ji6 (op:Operator){x y e:IE}(he:Jkc op x y=some e){t u:Tok}(R:Jk c ad fs st s.heap):JF c n ad fs st s (binaryOp op (.int (x.val c.ν) t) (.int (y.val c.ν) u)) (.int e):=by
 intro A Q hA q;have done:∀ {i:Int}{k},i=e.val c.ν→Q (.int i k) { s with toks:=s.toks+1 }:=fun {i k} z=>by subst z; exact Jaq (r:=.int e) R ⟨_,rfl⟩ q
 cases JmF (ν:=c.ν) op he with
 | add h z=>subst h; exact PyProof.Rows.add_int (done z)
 | sub h z=>subst h; exact PyProof.Rows.sub_int (done z)
 | mul h m z=>subst h; exact PyProof.Rows.mul_int (done z) (m.elim (fun m=>IntMulOk.of_left (JfN m)) fun m=>IntMulOk.of_right (JfN m))
 | div h n m z=>subst h; exact PyProof.Rows.floordiv_int n (done z) (.inl (PyProof.noPylong_small m))
 | mod h n z=>subst h; exact PyProof.Rows.mod_int' n (done z)
 | band h z=>subst h; exact PyProof.Rows.and_int (done z)
 | bor h z=>subst h; exact PyProof.Rows.or_int (done z)
end
section
variable {c:Jx}{n:Nat}{ad:List Addr}{fs:List JH}{st:St}{s:Shared}
theorem Jr1 (R:Jk c ad fs st s.heap):Jaj c.ν st.dom:=R.dom
theorem JiO {i:Int}(h0:0≤i)(h1:i≤101000):(Str.ofString (toString i)).length≤110000:=by
 have:=len_str_of_int i;omega
theorem Jg9 {e:IE}(h:Jjh e=true):0≤e.val c.ν∧e.val c.ν≤101000:=by
 cases e with
 | var t o =>
  cases o with
  | ofNat o =>
   obtain⟨ht,ho⟩:=Ja.mp h;have ho:=Nat.ble_eq.mp ho;have:=c.small t (Nat.blt_eq.mp ht);show 0≤c.ν.iv t+(o:Int)∧c.ν.iv t+(o:Int)≤_;omega
  | negSucc _=>exact ff h
 | _=>exact ff h
theorem Jd0:∀ (k:Nat) {e:SE},Jku k e=true→(e.val c.ν).length≤110000*2 ^ k
 | k,.lit x,h=>by
  have h:JU x.cps.toList=true:=by cases k <;> exact h
  have:=Jy h;show x.cps.size≤_;rw[Array.length_toList] at this;have:1≤2 ^ k:=Nat.one_le_two_pow;omega
 | k,.ofInt e,h=>by
  have h:Jjh e=true:=by cases k <;> exact h
  obtain⟨h0,h1⟩:=Jg9 (c:=c) h;have:=JiO h0 h1;have:1≤2 ^ k:=Nat.one_le_two_pow;show (Str.ofString (toString (e.val c.ν))).length≤_;omega
 | k+1,.cat a b,h=>by
  have h:Jh (Jku k a) (Jku k b)=true:=h;obtain⟨h1,h2⟩:=Ja.mp h;have:=Jd0 k h1;have:=Jd0 k h2;show (a.val c.ν++b.val c.ν).length≤_;rw[strLen_append,Nat.pow_succ];omega
 | 0,.cat _ _,h=>by cases h
 | 0,.var _,h=>by cases h
 | k+1,.var _,h=>by cases h
theorem Je.tup_inv {ν:Vl}{h:Heap}{l:List D}{v:Value}(x:Je ν ad h (.tup l) v):∃ a vs,v=.ref a∧h.IsTuple a (List.toArray vs)∧Je.goL ν ad h l vs:=by
 obtain⟨a,items,e,t,z⟩:=x;exact⟨a,items.toList,e,by rw[Array.toArray_toList]; exact t,z⟩
theorem Jcu {ν:Vl}{h:Heap}{l:List D}{a:Addr}{vs:List Value}(t:h.IsTuple a vs.toArray)(z:Je.goL ν ad h l vs):Je ν ad h (.tup l) (.ref a):=⟨a,_,rfl,t,z⟩
theorem JnQ (op:Operator)(R:Jk c ad fs st s.heap):∀ dm x y r,Jaj c.ν dm→JtD op dm x y=some r→∀ v u,Je c.ν ad s.heap x v→Je c.ν ad s.heap y u→JF c n ad fs st s (binaryOp op v u) r:=by
 intro dm x y r _ e v u hx hy
 cases x with
 | int a =>
  cases y with
  | int b =>
   have e:(match Jkc op a b with | some e=>some (.int e) | none=>none)=some r:=e
   cases q:Jkc op a b with
   | none=>rw[q] at e; exact fo e
   | some z =>
    rw[q] at e;obtain rfl:=Jp e;obtain⟨t,rfl⟩:=hx;obtain⟨t',rfl⟩:=hy;exact Ji6 op q R
  | _=>exact fo e
 | str a =>
  cases y with
  | str b =>
   cases op with
   | Add =>
    obtain⟨q,e⟩:=bmO e;obtain rfl:=Jp e;obtain⟨q1,q2⟩:=Ja.mp q;obtain⟨⟨t,rfl⟩,k1⟩:=hx;obtain⟨⟨t',rfl⟩,k2⟩:=hy;have l1:=Jd0 (c:=c) 3 q1;have l2:=Jd0 (c:=c) 3 q2;intro A Q hA q;exact PyProof.Rows.add_str (fun t' tk=>Jaq (r:=.str (.cat _ _)) R ⟨⟨t',rfl⟩,JkM k1 k2⟩ q) (Nat.le_trans (Nat.add_le_add l1 l2) (by decide))
   | _=>exact fo e
  | _=>exact fo e
 | tup a =>
  cases y with
  | tup b =>
   cases op with
   | Add =>
    obtain⟨q,e⟩:=bmO e;obtain rfl:=Jp e;have len:=Jy q;obtain⟨a,vs,rfl,t1,z1⟩:=hx.tup_inv;obtain⟨b,us,rfl,t2,z2⟩:=hy.tup_inv;have n1:=Jm z1;have n2:=Jm z2;rw[List.length_append,← n1,← n2] at len;intro A Q hA q;refine Jqw t1 t2 (fun e=>?_) (fun _ e=>?_) (fun _ _=>?_) (Nat.le_trans len (by decide))
    · subst e;have e:_=[]:=List.eq_nil_of_length_eq_zero n1.symm;subst e;exact JbQ R (Jcu t2 z2) q
    · subst e;have e:_=[]:=List.eq_nil_of_length_eq_zero n2.symm;subst e;rw[List.append_nil] at q;exact JbQ R (Jcu t1 z1) q
    · refine q _ _ (R.push _) (.grow (fun _ _ e=>Heap.get?_push_of_some _ e) rfl rfl rfl) ?_;exact Jcu (Jfv _ _) (JbN (Je.monoL (Jam _ _) (fun _ _ e=>e) z1) (Je.monoL (Jam _ _) (fun _ _ e=>e) z2))
   | _=>exact fo e
  | _=>exact fo e
 | _=>exact fo e
theorem JvB (op:Operator)(R:Jk c ad fs st s.heap){x y r:D}(e:Je2 (JtD op) st.dom x y=some r){v u:Value}(hx:Je c.ν ad s.heap x v)(hy:Je c.ν ad s.heap y u):JF c n ad fs st s (binaryOp op v u) r :=
 Jcc (P:=fun v u r=>JF c n ad fs st s (binaryOp op v u) r) (fun v=>JF.closed (fun u=>binaryOp op v u)) (JnQ op R) R.dom e hx hy
theorem JnF (R:Jk c ad fs st s.heap){x r:D}(e:JbP JAD 8 st.dom x=some r){v:Value}(hx:Je c.ν ad s.heap x v):JF c n ad fs st s (unaryOp .USub v) r:=by
 refine Jbr (P:=fun v r=>JF c n ad fs st s (unaryOp .USub v) r) (JF.closed (fun u=>unaryOp .USub u)) (fun dm x r _ e v hx=>?_) 8 R.dom e hx
 cases x with
 | int i =>
  cases i with
  | lit i =>
   obtain rfl:=Jp e;obtain⟨t,rfl⟩:=hx;intro A Q hA q;exact PyProof.Rows.neg_int (Jaq (r:=.int _) R ⟨_,rfl⟩ q)
  | _=>exact fo e
 | _=>exact fo e
def JhR (c:Jx)(n:Nat)(ad:List Addr)(fs:List JH)(st:St)(s:Shared)(t:Sem Bool)(b:Bool):Prop :=
 ∀ A (Q:Bool→Shared→Prop),Jz A n→(∀ s',Jk c ad fs st s'.heap→JN ad fs s ad s'→Q b s')→wpAny (model c.prog c.w) A t Q (fun _ _=>False) s
theorem JoI {α:Type}(l:List α):JdA l=l.isEmpty:=by cases l <;> rfl
theorem Jgf {l:List D}{vs:List Value}(e:vs.length=l.length):(!vs.toArray.isEmpty)=Jaz (JdA l):=by
 rw[Jbj,JoI]
 cases l <;> cases vs <;> first | rfl | simp at e
theorem Jf7 (R:Jk c ad fs st s.heap){d:D}{b:Bool}(e:Jli st d=some b){v:Value}(x:Je c.ν ad s.heap d v):JhR c n ad fs st s (truthy v) b:=by
 intro A Q hA q;have q':∀ {k},Q b { s with toks:=k }:=fun {k}=>q _ R (.quiet rfl rfl rfl rfl);have q0:Q b s:=q _ R (.refl _ _ _)
 cases d with
 | none=>obtain rfl:=Jp e; have x:v=_:=x; subst x; exact PyProof.Rows.truthy_none q0
 | bool _=>obtain rfl:=Jp e; have x:v=_:=x; subst x; exact wpAny_truthy_bool q0
 | int i =>
  obtain⟨t,rfl⟩:=x
  cases i with
  | lit i =>
   obtain rfl:=Jp e;refine PyProof.Rows.truthy_int ?_;have:(IE.val c.ν (.lit i) != 0)=Jaz (iEq i 0):=by
    rw[Jbj,JkQ];rfl
   rw[this]; exact q0
  | var t o =>
   obtain⟨z,e⟩:=bmO e;obtain rfl:=nbq z
   cases o with
   | ofNat k =>
    obtain rfl:=Jp e;refine PyProof.Rows.truthy_int ?_;have:(IE.val c.ν (.var 2 (.ofNat k)) != 0)=true:=bne_iff_ne.mpr fun h=>by
     have h:c.ν.iv 2+(k:Int)=0:=h;have:=c.pos;omega
    rw[this]; exact q0
   | negSucc _=>exact fo e
  | op _ _ _=>exact fo e
 | tup l =>
  obtain⟨z,e⟩:=bmO e;obtain rfl:=Jp e;have len:=Jy z;obtain⟨a,vs,rfl,t1,z1⟩:=x.tup_inv;have n1:=Jm z1;refine PyProof.Rows.truthy_tuple (items:=vs.toArray) t1 (by rw[List.size_toArray]; omega) ?_;rw[Jgf n1]; exact q'
 | obj i =>
  obtain⟨l,g,e⟩:=lsO e;obtain⟨z,e⟩:=bmO e;obtain rfl:=Jp e;have len:=Jy z;obtain⟨a,k1,rfl⟩:=x;obtain⟨v2,g1,g4⟩:=R.list0 g k1;have g1:=g1.isList;have n1:=Jm g4;refine wpAny_truthy_list g1 (by rw[List.size_toArray]; omega) ?_;rw[Jgf n1]; exact q'
 | _=>exact fo e
theorem JhJ {ih:D→St→(D→St→Bool)→Bool}{l:List (Nat×D)}{j:Nat}{k:D→St→Bool}(R:Jk c ad fs st s.heap)(e:Jg2 ih l j (J5 st.dom j) st k=true){v:Value}(x:Je c.ν ad s.heap (.tab j l) v) :
  ∃ y,Je c.ν ad s.heap y v∧Jk c ad fs (st.only j [c.ν.dg j]) s.heap∧ih y (st.only j [c.ν.dg j]) k=true:=by
 have ne:J5 st.dom j≠[]:=fun z=>by rw[z] at e; cases e
 have mem:=Jaj.mem (Jr1 R) ne;have all:∀ v∈J5 st.dom j,(match lkp l v with | some x=>ih x (st.only j [v]) k | none=>false)=true:=by
  cases z:J5 st.dom j with
  | nil=>exact absurd z ne
  | cons _ _=>rw[z] at e; exact Jn e
 have z:=all _ mem;obtain⟨y,k1,k2⟩:=JbA.mp (show Je.goR c.ν ad s.heap (c.ν.dg j) l v from x);rw[k1] at z;exact⟨y,k2,R.only (.head _),z⟩
theorem JdX:∀ (m:Nat) {d:D}{st:St}{k:D→St→Bool},Jk c ad fs st s.heap→Je1 m d st k=true→∀ {v},Je c.ν ad s.heap d v→∃ d' st',Je c.ν ad s.heap d' v∧Jk c ad fs st' s.heap∧k d' st'=true
 | 0,_,_,_,_,e,_,_=>by cases e
 | m+1,d,st,k,R,e,v,x=>by
  refine Jf fun n1G=>?_;have e:Jhm (Je1 m) d st k=true:=e
  cases d with
  | tab j l =>
   obtain⟨y,h1,h2,h3⟩:=JhJ R e x;exact n1G (JdX m h2 h3 h1)
  | _ =>
   exact n1G ⟨_,_,x,R,e⟩
theorem Jhs (R:Jk c ad fs st s.heap){d:D}{k:Bool→St→Bool}(e:Jgc k d st=true){v:Value}(x:Je c.ν ad s.heap d v):∃ b,k b st=true∧JhR c n ad fs st s (truthy v) b:=by
 obtain⟨b,z,e⟩:=obT e;exact⟨b,e,Jf7 R z x⟩
theorem Jjd {l:List (Nat×D)}:∀ {vs:List Nat}{ps:List (Nat×Bool)},Jeh (JiI st l) vs=some ps→∀ u∈vs,∃ x b,lkp l u=some x∧Jli st x=some b∧(u,b)∈ps
 | [],_,_,_,q=>nomatch q
 | v::vs,ps,e,u,q=>by
  refine Jf fun n1G=>?_;obtain⟨p,r,h1,h2,rfl⟩:=Jg1 e;rcases List.mem_cons.mp q with rfl | q
  · obtain⟨x,k1,h1⟩:=odO h1;obtain⟨b,k2,h1⟩:=obO h1;obtain rfl:=Jp h1;exact n1G ⟨x,b,k1,k2,.head _⟩
  · obtain⟨x,b,k1,k2,k3⟩:=Jjd h2 u q;exact n1G ⟨x,b,k1,k2,.tail _ k3⟩
theorem Jng {ps:List (Nat×Bool)}{u:Nat}{b:Bool}(h:(u,b)∈ps):u∈JgH b ps :=
 List.mem_map.mpr ⟨(u,b),List.mem_filter.mpr ⟨h,JlC.mpr rfl⟩,rfl⟩
theorem JiF {k:Bool→St→Bool}{j:Nat}{u:Nat}{ps:List (Nat×Bool)}{b:Bool}(h:(u,b)∈ps)(e:Jc5 st k j (JgH true ps) (JgH false ps)=true):k b st=true∨E1 (fun vs=>u∈vs) fun vs=>k b (st.only j vs)=true:=by
 have hm:=Jng h;unfold Jc5 at e
 cases p:JgH true ps with
 | nil =>
  cases q:JgH false ps with
  | nil=>rw[p,q] at e; exact ff e
  | cons _ _ =>
   rw[p,q] at e
   cases b with
   | true=>rw[p] at hm; cases hm
   | false=>exact .inl e
 | cons _ _ =>
  cases q:JgH false ps with
  | nil =>
   rw[p,q] at e
   cases b with
   | true=>exact .inl e
   | false=>rw[q] at hm; cases hm
  | cons _ _ =>
   rw[p,q] at e;obtain⟨e1,e2⟩:=Ja.mp e
   cases b with
   | true=>rw[p] at hm; exact .inr ⟨_,hm,e1⟩
   | false=>rw[q] at hm; exact .inr ⟨_,hm,e2⟩
theorem Jde (R:Jk c ad fs st s.heap){d:D}{k:Bool→St→Bool}(e:JdG d st k=true){v:Value}(x:Je c.ν ad s.heap d v) :
  ∃ b st',k b st'=true∧Jk c ad fs st' s.heap∧JhR c n ad fs st' s (truthy v) b:=by
 refine Jf fun n1G=>?_;have plain:Jgc k d st=true→∃ b st',k b st'=true∧Jk c ad fs st' s.heap∧JhR c n ad fs st' s (truthy v) b:=fun e=>by
  refine Jf fun n2G=>?_;obtain⟨b,h1,h2⟩:=Jhs (n:=n) R e x;exact n2G ⟨b,st,h1,R,h2⟩
 cases d with
 | tab j l =>
  have e:(match Jeh (JiI st l) (J5 st.dom j) with
   | some ps=>Jc5 st k j (JgH true ps) (JgH false ps)
   | none=>Je1 8 (.tab j l) st (Jgc k))=true:=e
  cases q:Jeh (JiI st l) (J5 st.dom j) with
  | some ps =>
   rw[q] at e;have ne:J5 st.dom j≠[]:=fun z=>by
    (rw[z] at q; obtain rfl:=Jp q)
    exact ff e
   obtain⟨y,b,k1,k2,k3⟩:=Jjd q _ (Jaj.mem (Jr1 R) ne);obtain⟨y',z1,z2⟩:=JbA.mp (show Je.goR c.ν ad s.heap (c.ν.dg j) l v from x);obtain rfl:=sjt k1 z1;rcases JiF k3 e with e | ⟨vs,hv,e⟩
   · exact n1G ⟨b,st,e,R,Jf7 R k2 z2⟩
   · exact n1G ⟨b,_,e,R.only hv,Jf7 (st:=st.only j vs) (R.only hv) k2 z2⟩
  | none =>
   rw[q] at e;obtain⟨d',st',h1,h2,h3⟩:=JdX 8 R e x;obtain⟨b,k1,k2⟩:=Jhs (n:=n) h2 h3 h1;exact n1G ⟨b,st',k1,h2,k2⟩
 | _ =>
  exact n1G (plain e)
end
section
variable {c:Jx}{n:Nat}{ad:List Addr}{fs:List JH}{st:St}{s:Shared}
theorem Ja3 (R:Jk c ad fs st s.heap){b:Bool}{Q:Value→Shared→Prop}(q:∀ s' v,Jk c ad fs st s'.heap→JN ad fs s ad s'→Je c.ν ad s'.heap (.bool b) v→Q v s'):Q (.bool b) s:=JbQ (r:=.bool b) R rfl q
theorem Jjp {dm:JP}{a b:D}{r:Bool}(ok:Jaj c.ν dm)(e:eqX dm a b=some r){v u:Value}(x:Je c.ν ad s.heap a v)(y:Je c.ν ad s.heap b u) :
  ∃ p q,Reads s.heap v p []∧Reads s.heap u q []∧SeqAt.shaped p=true∧SeqAt.shaped q=true∧PyData.eqv p q=r:=by
 refine Jf fun n1G=>?_;obtain⟨z,e⟩:=bmO e;obtain⟨z1,z2⟩:=Ja.mp z;obtain⟨a1,a2,a3⟩:=x.isP 8 z1;obtain⟨b1,b2,b3⟩:=y.isP 8 z2;exact n1G ⟨_,_,a1.reads,b1.reads,JeB a2 a3 (by decide),JeB b2 b3 (by decide),JcN 12 ok e⟩
theorem JmT:∀ {x y:PyData}{h:Heap}{v:Value},IsP h x v→IsP h y v→x=y:=by
 have key:∀ (k:Nat) (x y:PyData) (h:Heap) (v:Value),sizeOf x≤k→IsP h x v→IsP h y v→x=y:=by
  intro k
  induction k with
  | zero=>intro x y h v hk; cases x <;> simp at hk
  | succ k ih =>
   intro x y h v hk a b
   cases x with
   | none=>have a:v=_:=a; subst a; cases y <;> first | rfl | (obtain⟨_,b⟩:=b; cases b; done) | (have b:Value.none=_:=b; cases b) | exact b.elim | (obtain⟨_,_,b,_⟩:=b; cases b; done)
   | bool p=>have a:v=_:=a; subst a; cases y <;> first | (have b:Value.bool p=_:=b; cases b; rfl) | (have b:Value.bool p=_:=b; cases b) | (obtain⟨_,b⟩:=b; cases b; done) | exact b.elim | (obtain⟨_,_,b,_⟩:=b; cases b; done)
   | int p=>obtain⟨t,rfl⟩:=a; cases y <;> first | (obtain⟨_,b⟩:=b; cases b; rfl) | (obtain⟨_,b⟩:=b; cases b; done) | (have b:Value.int p t=_:=b; cases b) | exact b.elim | (obtain⟨_,_,b,_⟩:=b; cases b; done)
   | str p=>obtain⟨t,rfl⟩:=a; cases y <;> first | (obtain⟨_,b⟩:=b; cases b; rfl) | (obtain⟨_,b⟩:=b; cases b; done) | (have b:Value.str p t=_:=b; cases b) | exact b.elim | (obtain⟨_,_,b,_⟩:=b; cases b; done)
   | list l=>exact a.elim
   | dict l=>exact a.elim
   | tuple l =>
    obtain⟨p,items,rfl,⟨o,h1,h2,m,h3⟩,z⟩:=a
    cases y with
    | tuple r =>
     obtain⟨p',items',e,⟨o',g1,g2,m',g3⟩,z'⟩:=b
     cases e
     obtain rfl:=sjt h1 g1;rw[h3] at g3; cases g3;have:∀ (l r:List PyData) (vs:List Value),sizeOf l≤k→IsP.go h l vs→IsP.go h r vs→l=r:=by
      intro l
      induction l with
      | nil=>intro r vs _ a b; have a:vs=_:=a; subst a; cases r with | nil=>rfl | cons y r=>obtain⟨_,_,b,_⟩:=b; cases b
      | cons x l il =>
       rintro r vs hk ⟨v,vs',rfl,a1,a2⟩ b
       cases r with
       | nil=>cases b
       | cons y r =>
        obtain⟨v',vs'',e,b1,b2⟩:=b
        cases e
        simp at hk;rw[ih x y h v (by omega) a1 b1,il r vs' (by omega) a2 b2]
     simp at hk;rw[this l r _ (by omega) z z']
    | none=>have b:Value.ref p=_:=b; cases b
    | bool q=>have b:Value.ref p=_:=b; cases b
    | int q=>obtain⟨_,b⟩:=b; cases b
    | str q=>obtain⟨_,b⟩:=b; cases b
    | list q=>exact b.elim
    | dict q=>exact b.elim
 exact fun {x y h v} a b=>key _ x y h v (Nat.le_refl _) a b
theorem Jlx {dm:JP}{x:D}(ok:Jaj c.ν dm):∀ {l:List D}{r:Bool},inT dm x l=some r→(D.dat.go c.ν l).any (fun y=>PyData.eqv y (x.dat c.ν))=r
 | [],r,e=>by cases e; rfl
 | y::l,r,e=>by
  show (PyData.eqv (y.dat c.ν) (x.dat c.ν)||(D.dat.go c.ν l).any fun y=>PyData.eqv y (x.dat c.ν))=r;rcases ob3 (show (match eqD 12 dm y x with | some true=>some true | some false=>inT dm x l | none=>none)=some r from e) with ⟨q,e⟩ | ⟨q,e⟩ | ⟨_,e⟩
  · rw[JcN 12 ok q]; exact Jp e
  · rw[JcN 12 ok q]; exact Jlx ok e
  · exact fo e
open Classical in
def Jf2 (h:Heap)(p:PyData)(v:Value):Bool:=decide (∃ y,IsP h y v∧PyData.eqv y p=true)
open Classical in
theorem Jg6 {h:Heap}{p y:PyData}{v:Value}(a:IsP h y v):Jf2 h p v=PyData.eqv y p:=by
 unfold Jf2
 cases e:PyData.eqv y p with
 | true=>exact decide_eq_true ⟨y,a,e⟩
 | false =>
  refine decide_eq_false ?_;rintro⟨y',a',e'⟩;rw[JmT a a'] at e;rw[e] at e'
  cases e'
theorem Jgh {h:Heap}{p:PyData}:∀ {l:List PyData}{vs:List Value},IsP.go h l vs→vs.any (Jf2 h p)=l.any (fun y=>PyData.eqv y p)
 | [],_,e=>by have e:_=[]:=e; subst e; rfl
 | y::l,_,⟨v,r,e,a,b⟩=>by
  subst e;rw[List.any_cons,List.any_cons,Jg6 a,Jgh b]
theorem Jlv {h:Heap}:∀ {l:List PyData}{vs:List Value},IsP.go h l vs→∀ v∈vs,∃ y∈l,IsP h y v
 | [],_,e,v,q=>by have e:_=[]:=e; subst e; cases q
 | y::l,_,⟨v',r,e,a,b⟩,v,q=>by
  subst e;rcases List.mem_cons.mp q with rfl | q
  · exact⟨y,.head _,a⟩
  · obtain⟨y',h1,h2⟩:=Jlv b v q; exact⟨y',.tail _ h1,h2⟩
theorem Jgs:∀ {l:List PyData},PyData.canLayAll0 l=true→∀ y∈l,y.canLay0=true
 | x::l,e,y,q=>by
  have e:=(Bool.and_eq_true _ _).mp e;rcases List.mem_cons.mp q with rfl | q
  · exact e.1
  · exact Jgs e.2 y q
theorem JvK (R:Jk c ad fs st s.heap){dm:JP}(ok:Jaj c.ν dm){x:D}{l:List D}{r:Bool}(z:Jh (Jce 8 x) (Jw (Jce 8) l)=true)(e:inT dm x l=some r){v u:Value}(hx:Je c.ν ad s.heap x v)(hy:Je c.ν ad s.heap (.tup l) u) :
  JF c n ad fs st s (compareOp .In v u) (.bool r)∧JF c n ad fs st s (compareOp .NotIn v u) (.bool (!r)):=by
 refine Jf fun n1G=>?_;have z1:=And.left (Ja.mp z); have z2:=And.right (Ja.mp z);obtain⟨a1,a2,a3⟩:=hx.isP 8 z1;obtain⟨a,vs,rfl,t,zz⟩:=hy.tup_inv;obtain⟨b1,b2,b3⟩:=Je.isPs (Jn z2) zz;have any:vs.toArray.any (Jf2 s.heap (x.dat c.ν))=r:=by
  rw[List.any_toArray,Jgh b1]; exact Jlx ok e
 have at_:∀ A,Jz A n→∀ y,y∈vs.toArray→SeqAt.EqAt A.in1 s y v (Jf2 s.heap (x.dat c.ν) y):=by
  intro A hA y hy;refine Jf fun n2G=>?_;obtain⟨p,h1,h2⟩:=Jlv b1 y (by simpa using hy);refine n2G ?_;clear n2G;rw[Jg6 h2];refine SeqAt.eqAt_reads _ _ _ _ _ _ _ _ h2.reads a1.reads (Jgs b2 p h1) a2 ?_;have:=hA.units;have:=Nat.min_le_right p.depth (x.dat c.ν).depth;show A.units+1+_<_;have:=hA.2.2;omega
 refine n1G ?_;clear n1G;constructor
 · intro A Q hA q;exact SeqAt.in_tupleAt _ t (at_ A hA) (by rw[any]; exact Ja3 R q)
 · intro A Q hA q;exact SeqAt.notIn_tupleAt _ t (at_ A hA) (by rw[any]; exact Ja3 R q)
inductive NN:D→Prop
 | int (e:IE):NN (.int e)
 | str (e:SE):NN (.str e)
 | tup (l:List D):NN (.tup l)
 | obj (i:Nat):NN (.obj i)
inductive IsI:D→D→Bool→Prop
 | nn:IsI .none .none true
 | nx {b:D} (h:NN b):IsI .none b false
 | xn {a:D} (h:NN a):IsI a .none false
 | oo (i:Nat):IsI (.obj i) (.obj i) true
theorem JqV {a b:D}{r:Bool}(e:isD a b=some r):IsI a b r:=by
 have nx:∀ {b},NN b→some false=some r→IsI .none b r:=fun h e=>by obtain rfl:=Jp e; exact .nx h
 have xn:∀ {b},NN b→some false=some r→IsI b .none r:=fun h e=>by obtain rfl:=Jp e; exact .xn h
 cases a with
 | none =>
  cases b with
  | none=>obtain rfl:=Jp e; exact .nn
  | obj i=>exact nx (.obj i) e
  | tup l=>exact nx (.tup l) e
  | int x=>exact nx (.int x) e
  | str x=>exact nx (.str x) e
  | _=>exact fo e
 | obj i =>
  cases b with
  | none=>exact xn (.obj i) e
  | obj j=>obtain⟨z,e2⟩:=bmO e; obtain rfl:=nbq z; obtain rfl:=Jp e2; exact .oo i
  | _=>exact fo e
 | tup l=>cases b <;> first | exact xn (.tup l) e | exact fo e
 | int l=>cases b <;> first | exact xn (.int l) e | exact fo e
 | str l=>cases b <;> first | exact xn (.str l) e | exact fo e
 | _=>exact fo e
theorem NN.val {d:D}(h:NN d){ν:Vl}{hp:Heap}{v:Value}(x:Je ν ad hp d v):(plainIs .none v=true∧(Value.none==v)=false)∧plainIs v .none=true∧(v==Value.none)=false:=by
 cases h with
 | int e=>obtain⟨_,rfl⟩:=x; exact⟨⟨rfl,rfl⟩,rfl,rfl⟩
 | str e=>obtain⟨⟨_,rfl⟩,_⟩:=x; exact⟨⟨rfl,rfl⟩,rfl,rfl⟩
 | tup l=>obtain⟨_,_,rfl,_⟩:=x; exact⟨⟨rfl,rfl⟩,rfl,rfl⟩
 | obj i=>obtain⟨_,_,rfl⟩:=x; exact⟨⟨rfl,rfl⟩,rfl,rfl⟩
theorem Jn3 {a b:D}{r:Bool}(e:isD a b=some r){v u:Value}(x:Je c.ν ad s.heap a v)(y:Je c.ν ad s.heap b u){M:Model}{A:Around}{Q:Bool→Shared→Prop}{E:Value→Shared→Prop}(q:Q r s):wpAny M A (isSame v u) Q E s:=by
 cases JqV e with
 | nn=>have x:v=_:=x; have y:u=_:=y; subst x y; exact wpAny_isSame_plain rfl q
 | nx h=>have x:v=_:=x; subst x; have z:=(h.val y).1; exact wpAny_isSame_plain z.1 (by rw[z.2]; exact q)
 | xn h=>have y:u=_:=y; subst y; have z:=(h.val x).2; exact wpAny_isSame_plain z.1 (by rw[z.2]; exact q)
 | oo i =>
  obtain⟨a1,x1,rfl⟩:=x;obtain⟨a2,y1,rfl⟩:=y;obtain rfl:=sjt x1 y1;exact wpAny_isSame_ref_self q
theorem JcX {b:Option Bool}{r:D}(e:ofB b=some r):∃ x,b=some x∧r=.bool x:=by
 cases b with
 | none=>exact fo e
 | some x=>obtain rfl:=Jp e; exact⟨x,rfl,rfl⟩
theorem Jc2 {b:Option Bool}{r:D}(e:Jnb b=some r):∃ x,b=some x∧r=.bool (!x):=by
 cases b with
 | none=>exact fo e
 | some x=>obtain rfl:=Jp e; exact⟨x,rfl,by rw[Jbj]⟩
theorem JnJ {f:Int→Int→Bool}{a b:D}{r:Bool}(e:ltD f a b=some r):∃ x y,a=.int (.lit x)∧b=.int (.lit y)∧f x y=r:=by
 cases a with
 | int a =>
  cases a with
  | lit x =>
   cases b with
   | int b =>
    cases b with
    | lit y=>exact⟨x,y,rfl,rfl,Jp e⟩
    | _=>exact fo e
   | _=>exact fo e
  | _=>exact fo e
 | _=>exact fo e
theorem JiT (a b:Int):iLt a b=decide (a<b):=by
 rw[Bool.eq_iff_iff,decide_eq_true_iff]
 cases a with
 | ofNat m =>
  cases b with
  | ofNat k=>show Nat.blt m k=true↔(m:Int)<(k:Int); rw[Nat.blt_eq]; omega
  | negSucc k=>show false=true↔(m:Int)<Int.negSucc k; rw[Int.negSucc_eq]; constructor <;> intro h <;> first | cases h | omega
 | negSucc m =>
  cases b with
  | ofNat k=>show true=true↔Int.negSucc m<(k:Int); rw[Int.negSucc_eq]; constructor <;> intro h <;> first | rfl | omega
  | negSucc k=>show Nat.blt k m=true↔Int.negSucc m<Int.negSucc k; rw[Nat.blt_eq,Int.negSucc_eq,Int.negSucc_eq]; omega
theorem Jck {h:Heap}:∀ {l m:List PyData}{vs us:List Value},IsP.go h l vs→IsP.go h m us→IsP.go h (l++m) (vs++us)
 | [],_,_,_,x,y=>by have x:_=[]:=x; subst x; exact y
 | d::l,_,_,_,⟨v,r,e,x,z⟩,y=>by subst e; exact⟨v,r++_,rfl,x,Jck z y⟩
theorem Jb1:∀ {l m:List PyData},PyData.canLayAll0 l=true→PyData.canLayAll0 m=true→PyData.canLayAll0 (l++m)=true
 | [],_,_,y=>y
 | x::l,m,e,y=>by
  have e:=(Bool.and_eq_true _ _).mp e;exact (Bool.and_eq_true _ _).mpr ⟨e.1,Jb1 e.2 y⟩
theorem Jby:∀ {l m:List PyData}{k:Nat},PyData.depthAll l≤k→PyData.depthAll m≤k→PyData.depthAll (l++m)≤k
 | [],_,_,_,y=>y
 | x::l,m,k,e,y=>by
  have e:=Nat.max_le.mp e;exact Nat.max_le.mpr ⟨e.1,Jby e.2 y⟩
theorem Jga:∀ {p l m:List PyData},PyData.canLayAll0 p=true→PyData.eqvAll l m=true→PyData.eqvAll (p++l) (p++m)=true
 | [],_,_,_,y=>y
 | x::p,l,m,e,y=>by
  have e:=(Bool.and_eq_true _ _).mp e;exact (Bool.and_eq_true _ _).mpr ⟨SeqAt.eqv_refl x e.1,Jga e.2 y⟩
inductive Jwp (st:St)(dm:JP)(i j:Nat):D→Prop
 | mk (t:Nat) (l m:List D) (g1:st.objs.get i=some (.list t l)) (g2:st.objs.get j=some (.list t m)) (z2:okT t=true) (d1:Jw (Jce 8) l=true) (d2:Jw (Jce 8) m=true) (z4:goE (eqD 12 dm) l m=some true):Jwp st dm i j (.bool true)
theorem JjU {dm:JP}{i j:Nat}{r:D}(e:JiL st dm i j=some r):Jwp st dm i j r:=by
 obtain⟨t,l,g1,e1,_⟩:=lgO e;obtain⟨t',m,g2,e2,_⟩:=lgO e1;obtain⟨z0,e3⟩:=bmO e2;obtain⟨z1,z2⟩:=Ja.mp z0;obtain rfl:=nbq z1;obtain⟨z3,e⟩:=bmO e3;obtain⟨d1,d2⟩:=Ja.mp z3
 cases z4:goE (eqD 12 dm) l m with
 | none=>rw[z4] at e; exact fo e
 | some b =>
  rw[z4] at e
  cases b with
  | false=>exact fo e
  | true=>obtain rfl:=Jp e; exact⟨t,l,m,g1,g2,z2,d1,d2,z4⟩
theorem JkR (R:Jk c ad fs st s.heap){dm:JP}(ok:Jaj c.ν dm){i j:Nat}{r:D}(e:JiL st dm i j=some r){v u:Value}(x:Je c.ν ad s.heap (.obj i) v)(y:Je c.ν ad s.heap (.obj j) u):JF c n ad fs st s (compareOp .Eq v u) r:=by
 refine Jf fun n1G=>?_;obtain⟨t,l,m,g1,g2,z2,d1,d2,z4⟩:=JjU e;obtain⟨a,rfl⟩:∃ a,v=.ref a:=let ⟨a,_,e⟩:=x; ⟨a,e⟩;obtain⟨b,rfl⟩:∃ b,u=.ref b:=let ⟨b,_,e⟩:=y; ⟨b,e⟩;have one:∀ {i:Nat}{l:List D}{a:Addr},st.objs.get i=some (.list t l)→Je c.ν ad s.heap (.obj i) (.ref a)→Jw (Jce 8) l=true →
   ∃ p,(p=[]∨p=c.ν.pre 5)∧(p=if t=0 then [] else c.ν.pre 5)∧Reads s.heap (.ref a) (.list (p++D.dat.go c.ν l)) [a]∧SeqAt.shaped (.list (p++D.dat.go c.ν l))=true:=by
  rintro i l a g ⟨a',h1,h2⟩ d
  (injection h2 with zz; subst zz)
  obtain⟨b,k1,k2,k3⟩:=R.objs _ _ g;obtain rfl:=sjt h1 k1;obtain⟨items,v1,v2,g1,q2,q3,q4⟩:=k2;obtain⟨o,ho,hc,k,hd⟩:=g1.isList;obtain⟨b1,b2,b3⟩:=Je.isPs (Jn d) q4;have pre:∃ p,(p=[]∨p=c.ν.pre 5)∧(p=if t=0 then [] else c.ν.pre 5)∧IsP.go s.heap p v1:=by
   unfold okT at z2;by_cases t0:t=0
   · unfold Jac at q3;rw[if_pos t0] at q3;exact⟨[],.inl rfl,by rw[if_pos t0],q3⟩
   · have t5:t=5:=by
       rw[Jaw,decide_eq_false t0,Jaw,decide_eq_true_iff] at z2;exact z2
     unfold Jac at q3;rw[if_neg t0] at q3;exact⟨c.ν.pre 5,.inr rfl,by rw[if_neg t0],by have z:=q3.2.2 (.inl t5); rw[t5] at z; exact z⟩
  obtain⟨p,p1,p2,p3⟩:=pre;have hp:PyData.canLayAll0 p=true∧PyData.depthAll p≤50:=by
   rcases p1 with rfl | rfl
   · exact⟨rfl,Nat.zero_le _⟩
   · exact c.preOk
  refine⟨p,p1,p2,.list ho hc (by rw[hd]) (by rw[q2]; exact IsP.readsAll (Jck p3 b1)),?_⟩;refine JeB (n:=51) ?_ ?_ (by decide)
  · simp only[PyData.canLay0]; exact Jb1 hp.1 b2
  · simp only[PyData.depth];have:=Jby (l:=p) (m:=D.dat.go c.ν l) (k:=50) hp.2 (by omega);omega
 obtain⟨p,p1,p2,p3,p4⟩:=one g1 x d1;obtain⟨p',o1,o2,o3,o4⟩:=one g2 y d2;have:p'=p:=o2.trans p2.symm;subst this;have hp:PyData.canLayAll0 p'=true:=by
  refine Jf fun n2G=>?_;rcases p1 with rfl | rfl
  · refine n2G ?_;clear n2G;rfl
  · exact n2G (c.preOk.1)
 refine n1G ?_;clear n1G;intro A Q hA q;refine SeqAt.compareEq_shaped p3 o3 p4 o4 hA.units ?_;have:PyData.eqv (.list (p'++D.dat.go c.ν l)) (.list (p'++D.dat.go c.ν m))=true:=by
  simp only[PyData.eqv];exact Jga hp (Jkn (fun a b r e=>JcN 12 ok e) z4)
 rw[this];exact Ja3 R q
end
structure Jbq (c:Jx)(s:Shared)(a:Addr)(key:Value)(o:Option Value):Prop where
 typ:s.TypeIs (.ref a) "dict"
 isin:∀ {A:Around}{E:Value→Shared→Prop}{Q:Value→Shared→Prop},A.units+64<cLine→(∀ k,Q (.bool o.isSome) { s with toks:=k })→wpAny (model c.prog c.w) A (compareOp .In key (.ref a)) Q E s
 notin:∀ {A:Around}{E:Value→Shared→Prop}{Q:Value→Shared→Prop},A.units+64<cLine→(∀ k,Q (.bool (!o.isSome)) { s with toks:=k })→wpAny (model c.prog c.w) A (compareOp .NotIn key (.ref a)) Q E s
 item:∀ {A:Around}{E:Value→Shared→Prop}{Q:Value→Shared→Prop}{v:Value},A.units+64<cLine→o=some v→(∀ k,Q v { s with toks:=k })→wpAny (model c.prog c.w) A (getItem (.ref a) key) Q E s
 get1:∀ {A:Around}{E:Value→Shared→Prop}{Q:Value→Shared→Prop},A.units+64<cLine→(∀ k,Q (o.getD .none) { s with toks:=k })→s.TypeIs (.ref a) "dict"∧argsOk "dict.get" ⟨[.ref a,key],[]⟩ ∧
  ∃ S,MeetsIn c.prog c.w (Builtin.«dict.get» ⟨[.ref a,key],[]⟩) S∧S A (wants Q E) s
 get2:∀ {A:Around}{E:Value→Shared→Prop}{Q:Value→Shared→Prop}{dflt:Value},A.units+64<cLine→(∀ k,Q (o.getD dflt) { s with toks:=k })→s.TypeIs (.ref a) "dict"∧argsOk "dict.get" ⟨[.ref a,key,dflt],[]⟩ ∧
  ∃ S,MeetsIn c.prog c.w (Builtin.«dict.get» ⟨[.ref a,key,dflt],[]⟩) S∧S A (wants Q E) s
section
variable {c:Jx}{n:Nat}{ad:List Addr}{fs:List JH}{st:St}{s:Shared}
theorem Jbq.of {K:Type}[DecidableEq K]{knd:PySem.KeyKind c.prog c.w K}{a:Addr}{kvs:List (K×Value)}{k:K}{key:Value}(ns:a≠sysModules)(x:s.heap.DictOf knd a kvs)(hk:knd.is k key=true):Jbq c s a key (valueAt kvs k):=by
 have hd:(a==sysModules)=false:=beq_eq_false_iff_ne.mpr ns;refine⟨x.typeIs,fun _ q=>wpAny_in_of hk hd x.mapOf (q _),fun _ q=>wpAny_notIn_of hk hd x.mapOf (q _),fun _ e q=>wpAny_getItem_of hk x.mapOf e (q _),fun _ q=>?_,fun _ q=>?_⟩
 · exact⟨x.typeIs,F.args_dict_get_2 _ _,_,meets_dict_get knd a hk hd,_,x.mapOf,q _⟩
 · exact⟨x.typeIs,F.args_dict_get_3 _ _ _,_,meets_dict_get_default knd a hk hd _,_,x.mapOf,q _⟩
theorem Jbq.ofH {a b:Addr}{xs:List (IT×Addr×Value)}{k:IT}(ns:a≠sysModules)(x:s.heap.DictOfH (Jan c.prog c.w) a xs)(hk:(Jan c.prog c.w).is s.heap k b):Jbq c s a (.ref b) ((atKey xs k).map (·.2)):=by
 have hd:(a==sysModules)=false:=beq_eq_false_iff_ne.mpr ns;have room:∀ {A:Around},A.units+64<cLine→(Jan c.prog c.w).room A.in1:=fun {A} h=>by show A.units+1+20<cLine; omega
 refine⟨x.typeIs,fun h q=>wpAny_in_heap (room h) hk hd x ?_,fun h q=>wpAny_notIn_heap (room h) hk hd x ?_,fun {A E Q v} h e q=>?_,fun h q=>?_,fun h q=>?_⟩
 · have:=q (s.toks+(Jan c.prog c.w).draws k); rw[Option.isSome_map] at this; exact this
 · have:=q (s.toks+(Jan c.prog c.w).draws k); rw[Option.isSome_map] at this; exact this
 · refine Jf fun n1G=>?_;obtain⟨p,hp,rfl⟩:=Option.map_eq_some_iff.mp e;exact n1G (wpAny_getItem_heap (room h) hk x hp (q _))
 · exact⟨x.typeIs,F.args_dict_get_2 _ _,_,meetsH_dict_get (Jan c.prog c.w) a b hd,room h,k,xs,hk,x,q _⟩
 · exact⟨x.typeIs,F.args_dict_get_3 _ _ _,_,meetsH_dict_get_default (Jan c.prog c.w) a b hd _,room h,k,xs,hk,x,q _⟩
def Jeb (c:Jx)(ad:List Addr)(h:Heap)(r:Option D)(o:Option Value):Prop:=match r with
 | some d=>∃ u,o=some u∧Je c.ν ad h d u
 | none=>o=none
theorem Jcv {K:Type}[DecidableEq K](k k':K)(v:Value)(r:List (K×Value)):valueAt ((k,v)::r) k'=if k=k' then some v else valueAt r k':=by
 unfold valueAt;rw[List.find?_cons];by_cases e:k=k'
 · simp[e]
 · simp[e]
theorem Jbe {K:Type}[DecidableEq K](k k':K)(a:Addr)(v:Value)(r:List (K×Addr×Value)):atKey ((k,a,v)::r) k'=if k=k' then some (a,v) else atKey r k':=by
 unfold atKey;rw[List.find?_cons];by_cases e:k=k'
 · simp[e]
 · simp[e]
theorem Jn0 {b:IE}:∀ {l:List (D×D)}{kvs:List (Int×Value)}{r:Option D},JaW c.ν ad s.heap l kvs→Jba l (.int b)=some r→Jeb c ad s.heap r (valueAt kvs (b.val c.ν))
 | [],_,r,e,q=>by
  have e:_=[]:=e;subst e; obtain rfl:=Jp q; rfl
 | (k,d)::l,_,r,⟨e,v,kvs',hk,hkv,h1,h2⟩,q=>by
  subst hk hkv;have q:(match IE.eq? e b with | some true=>some (some d) | some false=>Jba l (.int b) | none=>none)=some r:=q;rw[Jcv];rcases ob3 q with ⟨z,q⟩ | ⟨z,q⟩ | ⟨_,q⟩
  · have:=of_decide_eq_true (IE.eq?_ok (ν:=c.ν) z);obtain rfl:=Jp q;rw[if_pos this]; exact⟨v,rfl,h1⟩
  · have:=of_decide_eq_false (IE.eq?_ok (ν:=c.ν) z);rw[if_neg this]; exact Jn0 h2 q
  · exact fo q
theorem JrI {b:SE}:∀ {l:List (D×D)}{kvs:List (Str×Value)}{r:Option D},JbX c.ν ad s.heap l kvs→Jba l (.str b)=some r→Jeb c ad s.heap r (valueAt kvs (b.val c.ν))
 | [],_,r,e,q=>by
  have e:_=[]:=e;subst e; obtain rfl:=Jp q; rfl
 | (k,d)::l,_,r,⟨e,v,kvs',hk,hkv,h1,h2⟩,q=>by
  subst hk hkv;have q:(match SE.eq? e b with | some true=>some (some d) | some false=>Jba l (.str b) | none=>none)=some r:=q;rw[Jcv];rcases ob3 q with ⟨z,q⟩ | ⟨z,q⟩ | ⟨_,q⟩
  · have:=of_decide_eq_true (SE.eq?_ok (ν:=c.ν) z);obtain rfl:=Jp q;rw[if_pos this]; exact⟨v,rfl,h1⟩
  · have:=of_decide_eq_false (SE.eq?_ok (ν:=c.ν) z);rw[if_neg this]; exact JrI h2 q
  · exact fo q
theorem JoN {ν:Vl}{d:D}{l:List D}{r:List IT}(h:(match IT.of ν d,IT.of.go ν l with | some x,some r=>some (x::r) | _,_=>none)=some r):E2 (fun x y=>IT.of ν d=some x) (fun _ y=>IT.of.go ν l=some y) fun x y=>r=x::y:=by
 cases a:IT.of ν d with
 | none=>rw[a] at h; exact fo h
 | some x =>
  cases b:IT.of.go ν l with
  | none=>rw[a,b] at h; exact fo h
  | some y=>rw[a,b] at h; exact⟨x,y,rfl,rfl,(Jp h).symm⟩
mutual
theorem IT.of_dat:∀ {d:D}{x:IT},IT.of c.ν d=some x→d.dat c.ν=x.py
 | .int e,x,q=>by obtain rfl:=Jp q; rfl
 | .tup l,x,q=>by
  have q:(match IT.of.go c.ν l with | some l=>some (IT.tup l) | none=>none)=some x:=q
  cases z:IT.of.go c.ν l with
  | none=>rw[z] at q; exact fo q
  | some r=>rw[z] at q; obtain rfl:=Jp q; exact congrArg _ (IT.of_dats z)
 | .none,x,q=>fo q
 | .bool _,x,q=>fo q
 | .str _,x,q=>fo q
 | .obj _,x,q=>fo q
 | .tab _ _,x,q=>fo q
 | .opq _,x,q=>fo q
theorem IT.of_dats:∀ {l:List D}{r:List IT},IT.of.go c.ν l=some r→D.dat.go c.ν l=IT.py.go r
 | [],r,q=>by obtain rfl:=Jp q; rfl
 | d::l,r,q=>by
  obtain⟨x,y,z1,z2,rfl⟩:=JoN q;show d.dat c.ν::D.dat.go c.ν l=x.py::IT.py.go y;rw[IT.of_dat z1,IT.of_dats z2]
end
theorem Jo6:∀ (m:Nat) {d:D}{v:Value},itD m d=true→Je c.ν ad s.heap d v→∃ x,IT.of c.ν d=some x∧J2 s.heap x v∧x.depth≤m
 | 0,_,_,e,_=>by cases e
 | m+1,d,v,e,x=>by
  refine Jf fun n1G=>?_;have e:Jn1 (itD m) d=true:=e
  cases d with
  | int i =>
   exact n1G ⟨_,rfl,x,Nat.zero_le _⟩
  | tup l =>
   obtain⟨a,items,e1,t,z⟩:=x;have all:=Jn e;have:∀ {l:List D}{vs:List Value},(∀ x∈l,itD m x=true)→Je.goL c.ν ad s.heap l vs→∃ xs,IT.of.go c.ν l=some xs∧J2.go s.heap xs vs∧IT.depth.go xs≤m:=by
    intro l
    induction l with
    | nil=>intro vs _ z; exact⟨[],rfl,z,Nat.zero_le _⟩
    | cons d l ih =>
     rintro vs al ⟨v,r,q,y,z⟩;refine Jf fun n2G=>?_;obtain⟨xs,i1,i2,i3⟩:=ih (fun x hx=>al x (.tail _ hx)) z;obtain⟨x,j1,j2,j3⟩:=Jo6 m (al d (.head _)) y;refine n2G ?_;clear n2G;refine⟨x::xs,?_,⟨v,r,q,j2,i2⟩,?_⟩
     · show (match IT.of c.ν d,IT.of.go c.ν l with | some x,some r=>some (x::r) | _,_=>none)=_;rw[j1,i1]
     · exact Nat.max_le.mpr ⟨j3,i3⟩
   obtain⟨xs,i1,i2,i3⟩:=this all z;refine n1G ?_;clear n1G;refine⟨.tup xs,?_,⟨a,items,e1,t,i2⟩,?_⟩
   · show (match IT.of.go c.ν l with | some l=>some (IT.tup l) | none=>none)=_;rw[i1]
   · exact Nat.succ_le_succ i3
  | _=>exact ff e
theorem JdK {k x:D}{p q:IT}{r:Bool}(hk:IT.of c.ν k=some p)(hx:IT.of c.ν x=some q)(e:eqK k x=some r):decide (p=q)=r:=by
 rw[← IT.eqv_decide,← IT.of_dat hk,← IT.of_dat hx]
 cases k with
 | int a =>
  cases x with
  | int b=>exact IE.eq?_ok e
  | _=>exact fo e
 | tup a =>
  cases x with
  | tup b=>exact JcN 12 (fun j l z=>by cases j <;> cases z) e
  | _=>exact fo e
 | _=>exact fo hk
theorem Jr6 {x:D}{q:IT}(hx:IT.of c.ν x=some q):∀ {l:List (D×D)}{xs:List (IT×Addr×Value)}{r:Option D},Jaa c.ν ad s.heap l xs→Jba l x=some r→Jeb c ad s.heap r ((atKey xs q).map (·.2))
 | [],_,r,e,z=>by
  have e:_=[]:=e;subst e; obtain rfl:=Jp z; rfl
 | (k,d)::l,_,r,⟨p,a,v,xs',e1,rfl,h1,h2⟩,z=>by
  have z:(match eqK k x with | some true=>some (some d) | some false=>Jba l x | none=>none)=some r:=z;rw[Jbe];rcases ob3 z with ⟨w,z⟩ | ⟨w,z⟩ | ⟨_,z⟩
  · have:=of_decide_eq_true (JdK e1 hx w);obtain rfl:=Jp z;rw[if_pos this]; exact⟨v,rfl,h1⟩
  · have:=of_decide_eq_false (JdK e1 hx w);rw[if_neg this]; exact Jr6 hx h2 z
  · exact fo z
theorem Jeq {x:D}{q:IT}(hx:IT.of c.ν x=some q):∀ {l:List (Nat×D×D)}{xs:List (IT×Addr×Value)},(∀ p∈l,IT.of c.ν p.2.1≠some q)→J9 c.ν ad s.heap l xs→atKey xs q=none
 | [],_,_,e=>by have e:_=[]:=e; subst e; rfl
 | (j,k,d)::l,_,ne,.inl ⟨_,p,a,v,xs',e1,rfl,h1,h2⟩=>by
  rw[Jbe,if_neg]
  · exact Jeq hx (fun p hp=>ne p (.tail _ hp)) h2
  · intro e; subst e; exact ne _ (.head _) e1
 | (j,k,d)::l,_,ne,.inr ⟨_,h2⟩=>Jeq hx (fun p hp=>ne p (.tail _ hp)) h2
theorem JfH {x:D}{q:IT}(hx:IT.of c.ν x=some q):∀ {l:List (Nat×D×D)}{xs:List (IT×Addr×Value)}{r:Option (Nat×D)},(∃ ks:List IT,l.map (fun p=>IT.of c.ν p.2.1)=ks.map some∧ks.Nodup)→J9 c.ν ad s.heap l xs→JjM l x=some r →
  match r with
  | none=>atKey xs q=none
  | some (j,d)=>(c.ν.dg j=0∧atKey xs q=none)∨(c.ν.dg j=1∧∃ a u,atKey xs q=some (a,u)∧Je c.ν ad s.heap d u)
 | [],_,r,_,e,z=>by
  have e:_=[]:=e;subst e; obtain rfl:=Jp z; rfl
 | (j,k,d)::l,xs,r,⟨ks,hk,nd⟩,e,z=>by
  cases ks with
  | nil=>cases hk
  | cons p ks =>
   injection hk with hp hks;rw[List.nodup_cons] at nd;have z:(match eqK k x with | some true=>some (some (j,d)) | some false=>JjM l x | none=>none)=some r:=z;rcases ob3 z with ⟨w,z⟩ | ⟨w,z⟩ | ⟨_,z⟩
   · have:=of_decide_eq_true (JdK hp hx w);subst this;obtain rfl:=Jp z;have ne:∀ y∈l,IT.of c.ν y.2.1≠some p:=fun y hy e=>by
      have:some p∈l.map (fun p=>IT.of c.ν p.2.1):=List.mem_map.mpr ⟨y,hy,e⟩;rw[hks] at this;obtain⟨w,h1,h2⟩:=List.mem_map.mp this;obtain rfl:=Jp h2;exact nd.1 h1
     rcases e with ⟨d1,p',a,v,xs',e1,rfl,h1,h2⟩ | ⟨d0,h2⟩
     · have e1:IT.of c.ν k=some p':=e1;obtain rfl:=sjt hp e1;exact .inr ⟨d1,a,v,by rw[Jbe,if_pos rfl],h1⟩
     · exact .inl ⟨d0,Jeq hx ne h2⟩
   · have nq:=of_decide_eq_false (JdK hp hx w);rcases e with ⟨d1,p',a,v,xs',e1,rfl,h1,h2⟩ | ⟨d0,h2⟩
     · have e1:IT.of c.ν k=some p':=e1;obtain rfl:=sjt hp e1;rw[Jbe,if_neg nq];exact JfH hx ⟨ks,hks,nd.2⟩ h2 z
     · exact JfH hx ⟨ks,hks,nd.2⟩ h2 z
   · exact fo z
end
section
variable {c:Jx}{n:Nat}{ad:List Addr}{fs:List JH}{st:St}{s:Shared}
noncomputable def Jbi (h:Heap)(a:Addr):Prop:=∃ o ep,h.get? a=some o∧o.ExactDict∧o.data=.dict #[] ep
theorem Jbi.of {h:Heap}{prog:Program}{w:World}{K:Type}[DecidableEq K]{knd:PySem.KeyKind prog w K}{a:Addr}(x:h.DictOf knd a []):Jbi h a:=by
 obtain⟨o,es,ep,h1,h2,h3,_,h4,_⟩:=x;have:es.toList=[]:=List.eq_nil_of_length_eq_zero h4.length;have:es=#[]:=by rw[← Array.toList_inj,this]
 subst this;exact⟨o,ep,h1,h2,h3⟩
theorem Jbi.ofH {h:Heap}{prog:Program}{w:World}{a:Addr}(x:h.DictOfH (Jan prog w) a []):Jbi h a:=by
 obtain⟨o,es,ep,h1,h2,h3,h4,_⟩:=x;have:es=#[]:=by rw[← Array.toList_inj,h4]; rfl
 subst this;exact⟨o,ep,h1,h2,h3⟩
theorem Jbi.dict {h:Heap}{prog:Program}{w:World}{K:Type}[DecidableEq K]{knd:PySem.KeyKind prog w K}{a:Addr}(x:Jbi h a):h.DictOf knd a []:=by
 refine Jf fun n1G=>?_;obtain⟨o,ep,h1,h2,h3⟩:=x;exact n1G ⟨o,#[],ep,h1,h2,h3,fun e he=>by simp at he,.nil,List.nodup_nil⟩
theorem Jbi.dictH {h:Heap}{prog:Program}{w:World}{a:Addr}(x:Jbi h a):h.DictOfH (Jan prog w) a []:=by
 refine Jf fun n1G=>?_;obtain⟨o,ep,h1,h2,h3⟩:=x;exact n1G ⟨o,#[],ep,h1,h2,h3,rfl,fun x hx=>by simp at hx,List.nodup_nil⟩
theorem Jgt {i:Int}{t:Tok}:(PySem.intKind c.prog c.w).is i (.int i t)=true:=by simp[PySem.intKind,Value.isInt]
theorem Jla {x:Str}{t:Tok}:(PySem.strKind c.prog c.w).is x (.str x t)=true:=by simp[PySem.strKind,Value.isStrOf]
theorem Jgn {l:List D}{v:Value}(e:Jw (itD 6) l=true)(x:Je c.ν ad s.heap (.tup l) v):∃ q b,v=.ref b∧IT.of c.ν (.tup l)=some q∧(Jan c.prog c.w).is s.heap q b:=by
 refine Jf fun n1G=>?_;obtain⟨q,h1,h2,h3⟩:=Jo6 7 (d:=.tup l) e x;obtain⟨b,_,rfl,_⟩:=x;exact n1G ⟨q,b,rfl,h1,Nat.le_succ_of_le h3,h2⟩
theorem Jbq.empty {a:Addr}(ns:a≠sysModules)(x:Jbi s.heap a){k:D}{key:Value}(ok:Jho k=true)(hk:Je c.ν ad s.heap k key):Jbq c s a key none:=by
 cases k with
 | int e=>obtain⟨t,rfl⟩:=hk; exact Jbq.of (knd:=PySem.intKind c.prog c.w) ns x.dict Jgt
 | str e=>obtain⟨⟨t,rfl⟩,_⟩:=hk; exact Jbq.of (knd:=PySem.strKind c.prog c.w) ns x.dict Jla
 | tup l =>
  obtain⟨q,b,rfl,_,h⟩:=Jgn ok hk;exact Jbq.ofH ns x.dictH h
 | _=>exact ff ok
theorem Jk.notSys (R:Jk c ad fs st s.heap){i:Nat}{o:Jo}{a:Addr}(g:st.objs.get i=some o)(ha:ad[i]?=some a):a≠sysModules:=by
 obtain⟨a',h1,h2,h3⟩:=R.objs i o g;obtain rfl:=sjt ha h1;rcases h3 with h3 | h3
 · cases o <;> first | exact h2.1 | cases h3
 · intro e; rw[e] at h3; obtain⟨o,q⟩:=c.lowSys; rw[h3] at q; cases q
theorem Jgy {l:List (D×D)}{x:D}{r:Option D}(e:Jlo l x=some r):Jho x=true∧Jba l x=some r:=by
 unfold Jlo at e;split at e
 · rename_i z; exact⟨z,e⟩
 · exact fo e
theorem JHb {d:D}{l:List (D×D)}{k:D}{e:IE}{v:D}{r:Option D}(h:Jba ((k,v)::l) d=some r)(hk:k=.int e):∃ b,d=.int b:=by
 subst hk;have h:(match eqK (.int e) d with | some true=>some (some v) | some false=>Jba l d | none=>none)=some r:=h
 cases d <;> first | exact⟨_,rfl⟩ | cases h
theorem JHH {d:D}{l:List (D×D)}{k:D}{e:SE}{v:D}{r:Option D}(h:Jba ((k,v)::l) d=some r)(hk:k=.str e):∃ b,d=.str b:=by
 subst hk;have h:(match eqK (.str e) d with | some true=>some (some v) | some false=>Jba l d | none=>none)=some r:=h
 cases d <;> first | exact⟨_,rfl⟩ | cases h
theorem JM3 {d:D}{l:List (D×D)}{k:D}{p:IT}{v:D}{r:Option D}(h:Jba ((k,v)::l) d=some r)(hk:IT.of c.ν k=some p):(∃ b,d=.int b)∨∃ l,d=.tup l:=by
 have h:(match eqK k d with | some true=>some (some v) | some false=>Jba l d | none=>none)=some r:=h
 cases k <;> first | (simp[IT.of] at hk; done) | skip
 · cases d <;> first | exact .inl ⟨_,rfl⟩ | cases h
 · cases d <;> first | exact .inr ⟨_,rfl⟩ | cases h
theorem Jjb {l:List (D×D)}{x:D}{r:Option D}(e:JcU (.idict l) x=some r):∃ m,x=.int (.var 1 (.ofNat m))∧Jba l x=some r:=by
 cases x with
 | int e' =>
  cases e' with
  | var t o =>
   cases o with
   | ofNat m =>
    match t,e with
    | 0,e=>exact fo e
    | 1,e=>exact⟨m,rfl,e⟩
    | t+2,e=>exact fo e
   | negSucc m =>
    match t,e with
    | 0,e=>exact fo e
    | 1,e=>exact fo e
    | t+2,e=>exact fo e
  | _=>exact fo e
 | _=>exact fo e
theorem Jgm (R:Jk c ad fs st s.heap){i:Nat}{o:Jo}(g:st.objs.get i=some o){x:D}{r:Option D}(e:JcU o x=some r){key:Value}(hx:Je c.ν ad s.heap x key) :
  ∃ a ov,ad[i]?=some a∧Jbq c s a key ov∧Jeb c ad s.heap r ov:=by
 refine Jf fun n1G=>?_;obtain⟨a,h1,h2,h3⟩:=R.objs i o g;have ns:=R.notSys g h1;have onI:∀ {l kvs},s.heap.DictOf (PySem.intKind c.prog c.w) a kvs→JaW c.ν ad s.heap l kvs→Jho x=true→Jba l x=some r→∃ a ov,ad[i]?=some a∧Jbq c s a key ov∧Jeb c ad s.heap r ov:=by
  intro l kvs hd hr ok hf;refine Jf fun n2G=>?_
  cases l with
  | nil =>
   have hr:kvs=[]:=hr;subst hr;obtain rfl:=Jp hf;exact n2G ⟨a,none,h1,.empty ns (.of hd) ok hx,rfl⟩
  | cons p l =>
   obtain⟨k,d⟩:=p;obtain⟨e',v,kvs',hk,hkv,z1,z2⟩:=id hr;obtain⟨b,rfl⟩:=JHb hf hk;obtain⟨t,rfl⟩:=hx;exact n2G ⟨a,_,h1,.of ns hd Jgt,Jn0 hr hf⟩
 cases o with
 | inst _ _ =>
  exact fo e
 | ns _ _ =>
  exact fo e
 | list _ _ =>
  exact fo e
 | cdict _ =>
  exact fo e
 | sdict l =>
  obtain⟨_,kvs,hd,hr⟩:=h2;obtain⟨ok,hf⟩:=Jgy e;exact n1G (onI hd hr ok hf)
 | idict l =>
  obtain⟨k0,kvs,hd,hlt,hr,_⟩:=h2;obtain⟨m,rfl,e⟩:=Jjb e
  · obtain⟨t,rfl⟩:=hx;have hf:=Jn0 hr e;have:valueAt (k0++kvs) (IE.val c.ν (.var 1 (.ofNat m)))=valueAt kvs (IE.val c.ν (.var 1 (.ofNat m))):=by
     have:∀ {k0:List (Int×Value)},(∀ p∈k0,p.1<c.ν.iv 1)→valueAt (k0++kvs) (IE.val c.ν (.var 1 (.ofNat m)))=valueAt kvs (IE.val c.ν (.var 1 (.ofNat m))):=by
      intro k0
      induction k0 with
      | nil=>intro _; rfl
      | cons p k0 ih =>
       intro hl;obtain⟨k,v⟩:=p;have h0:=hl _ (.head _);rw[List.cons_append,Jcv,if_neg,ih (fun p hp=>hl p (.tail _ hp))];simp only[IE.val];intro e;have:(Int.ofNat m)=(m:Int):=rfl;simp only at h0;omega
     exact this fun p hp=>(hlt p hp).1
    refine n1G ?_;clear n1G;refine⟨a,_,h1,.of ns hd Jgt,?_⟩;rw[this]; exact hf
 | dict kd l =>
  obtain⟨ok,hf⟩:=Jgy e;refine n1G ?_;clear n1G
  match kd with
  | 0=>obtain⟨kvs,hd,hr⟩:=h2; exact onI hd hr ok hf
  | 1 =>
   refine Jf fun n3G=>?_;obtain⟨kvs,hd,hr⟩:=h2
   cases l with
   | nil =>
    have hr:kvs=[]:=hr;subst hr;obtain rfl:=Jp hf;exact n3G ⟨a,none,h1,.empty ns (.of hd) ok hx,rfl⟩
   | cons p l =>
    obtain⟨k,d⟩:=p;obtain⟨e',v,kvs',hk,hkv,z1,z2⟩:=id hr;obtain⟨b,rfl⟩:=JHH hf hk;obtain⟨⟨t,rfl⟩,_⟩:=hx;exact n3G ⟨a,_,h1,.of ns hd Jla,JrI hr hf⟩
  | 2 =>
   refine Jf fun n4G=>?_;obtain⟨xs,hd,hr⟩:=h2
   cases l with
   | nil =>
    have hr:xs=[]:=hr;subst hr;obtain rfl:=Jp hf;exact n4G ⟨a,none,h1,.empty ns (.ofH hd) ok hx,rfl⟩
   | cons p l =>
    obtain⟨k,d⟩:=p;obtain⟨p,b,v,xs',hp,hkv,z1,z2⟩:=id hr;rcases JM3 hf hp with ⟨b',rfl⟩ | ⟨l',rfl⟩
    · refine n4G ?_;clear n4G;exfalso
      cases k <;> first | (simp[IT.of] at hp; done) | skip
      · refine Jf fun n5G=>?_;subst hkv;have:=(hd.choose_spec.choose_spec.choose_spec.2.2.2.2.1) (p,b,v) (by simp);simp only[IT.of,Option.some.injEq] at hp;subst hp;obtain⟨_,t,q⟩:=this
        cases q
      · exact fo hf
    · obtain⟨q,b',rfl,h4,h5⟩:=Jgn ok hx;exact n4G ⟨a,_,h1,.ofH ns hd h5,Jr6 h4 hr hf⟩
  | m+3 =>
   refine Jf fun n6G=>?_;obtain⟨rfl,hd⟩:=h2;obtain rfl:=Jp hf;exact n6G ⟨a,none,h1,.empty ns (.of hd) ok hx,rfl⟩
end
section
variable {c:Jx}{n:Nat}{ad:List Addr}{fs:List JH}{st:St}{s:Shared}
theorem JdV {dm:JP}(ok:Jaj c.ν dm){j:Nat}{no yes r:D}(e:Jg3 dm j no yes=some r)(z:c.ν.dg j=0∨c.ν.dg j=1){ad:List Addr}{h:Heap}{v:Value}(x:Je c.ν ad h (if c.ν.dg j=0 then no else yes) v):Je c.ν ad h r v:=by
 unfold Jg3 at e
 cases q:J5 dm j with
 | nil=>rw[q] at e; exact fo e
 | cons u l =>
  rw[q] at e
  cases l with
  | nil =>
   have mem:=ok.mem (j:=j) (by rw[q]; exact List.cons_ne_nil _ _);rw[q] at mem;have mem:=List.mem_singleton.mp mem;rcases bm e with ⟨w,e⟩ | ⟨w,e⟩
   · obtain rfl:=Jp e;rw[if_pos (mem.trans (nbq w))] at x; exact x
   · rw[Jaw,decide_eq_false_iff_not] at w;obtain rfl:=Jp e;rw[if_neg (by rw[mem]; exact w)] at x; exact x
  | cons _ l =>
   cases l with
   | cons _ _=>exact fo e
   | nil =>
    obtain rfl:=Jp e;show Je.goR c.ν ad h (c.ν.dg j) [(0,no),(1,yes)] v;rcases z with z | z
    · rw[if_pos z] at x; exact .inl ⟨z.symm,x⟩
    · rw[if_neg (by omega)] at x; exact .inr ⟨by omega,.inl ⟨z.symm,x⟩⟩
theorem JjV {l:List (Nat×D×D)}{x:D}{r:Option (Nat×D)}(e:JbL l x=some r):∃ m,x=.tup m∧Jw (itD 6) m=true∧JjM l (.tup m)=some r:=by
 cases x with
 | tup m =>
  obtain⟨z,e⟩:=bmO e;exact⟨m,rfl,z,e⟩
 | _=>exact fo e
theorem JeG (R:Jk c ad fs st s.heap){i:Nat}{l:List (Nat×D×D)}(g:st.objs.get i=some (.cdict l)){x:D}{r:Option (Nat×D)}(e:JbL l x=some r){key:Value}(hx:Je c.ν ad s.heap x key) :
  ∃ a ov,ad[i]?=some a∧Jbq c s a key ov∧(match r with
   | none=>ov=none
   | some (j,d)=>(c.ν.dg j=0∧ov=none)∨(c.ν.dg j=1∧∃ u,ov=some u∧Je c.ν ad s.heap d u)):=by
 obtain⟨a,h1,h2,h3⟩:=R.objs i _ g;have ns:=R.notSys g h1;obtain⟨nd,fr,xs,hd,hr⟩:=h2;obtain⟨m,rfl,z,e⟩:=JjV e;obtain⟨q,b,rfl,k1,k2⟩:=Jgn z hx;have f:=JfH k1 nd hr e;refine⟨a,_,h1,.ofH ns hd k2,?_⟩
 cases r with
 | none=>simp only at f ⊢; rw[f]; rfl
 | some p =>
  obtain⟨j,d⟩:=p;rcases f with ⟨f1,f2⟩ | ⟨f1,b',u,f2,f3⟩
  · exact .inl ⟨f1,by rw[f2]; rfl⟩
  · exact .inr ⟨f1,u,by rw[f2]; rfl,f3⟩
theorem Jrg (R:Jk c ad fs st s.heap){dm:JP}(ok:Jaj c.ν dm){i:Nat}{x dflt r:D}(e:JEA st i dm x dflt=some r){key dv:Value}(hx:Je c.ν ad s.heap x key)(hd:Je c.ν ad s.heap dflt dv) :
  ∃ a ov,ad[i]?=some a∧Jbq c s a key ov∧Je c.ν ad s.heap r (ov.getD dv):=by
 refine Jf fun n1G=>?_;obtain⟨o,g,e⟩:=ooO e;have oth:Jr4 (JcU o x) dflt=some r→∃ a ov,ad[i]?=some a∧Jbq c s a key ov∧Je c.ν ad s.heap r (ov.getD dv):=fun e=>by
  cases q:JcU o x with
  | none=>rw[q] at e; exact fo e
  | some o' =>
   rw[q] at e;obtain⟨a,ov,h1,h2,h3⟩:=Jgm R g q hx;refine⟨a,ov,h1,h2,?_⟩
   cases o' with
   | some d=>obtain rfl:=Jp e; obtain⟨u,rfl,h4⟩:=h3; exact h4
   | none=>obtain rfl:=Jp e; have h3:ov=none:=h3; subst h3; exact hd
 cases o with
 | cdict l =>
  have e:(match JbL l x with | some o=>(match o with | some (j,v)=>Jg3 dm j dflt v | none=>some dflt) | none=>none)=some r:=e
  cases q:JbL l x with
  | none=>rw[q] at e; exact fo e
  | some o' =>
   rw[q] at e;obtain⟨a,ov,h1,h2,h3⟩:=JeG R g q hx;refine n1G ?_;clear n1G;refine⟨a,ov,h1,h2,?_⟩
   cases o' with
   | some p =>
    refine Jf fun n2G=>?_;obtain⟨j,d⟩:=p;rcases h3 with ⟨z,rfl⟩ | ⟨z,u,rfl,h4⟩
    · refine n2G ?_;clear n2G;exact JdV ok e (.inl z) (by rw[if_pos z]; exact hd)
    · refine n2G ?_;clear n2G;exact JdV ok e (.inr z) (by rw[if_neg (by omega)]; exact h4)
   | none =>
    obtain rfl:=Jp e;have h3:ov=none:=h3;subst h3;exact hd
 | _ =>
  exact n1G (oth e)
theorem Jon (R:Jk c ad fs st s.heap){dm:JP}(ok:Jaj c.ν dm){x b r:D}(e:inD st dm x b=some r){v u:Value}(hx:Je c.ν ad s.heap x v)(hb:Je c.ν ad s.heap b u) :
  ∃ t,(∀ ad h,Je c.ν ad h r (.bool t))∧JF c n ad fs st s (compareOp .In v u) (.bool t)∧JF c n ad fs st s (compareOp .NotIn v u) (.bool (!t)):=by
 have fin:∀ {a ov},u=.ref a→Jbq c s a v ov→JF c n ad fs st s (compareOp .In v u) (.bool ov.isSome)∧JF c n ad fs st s (compareOp .NotIn v u) (.bool (!ov.isSome)):=by
  rintro a ov rfl F;exact⟨fun A Q hA q=>F.isin hA.units fun k=>Jaq (r:=.bool _) R rfl q,fun A Q hA q=>F.notin hA.units fun k=>Jaq (r:=.bool _) R rfl q⟩
 cases b with
 | tup l =>
  obtain⟨z,e⟩:=bmO e;obtain⟨t,q,rfl⟩:=JcX e;obtain⟨h1,h2⟩:=JvK (n:=n) R ok z q hx hb;exact⟨t,fun _ _=>rfl,h1,h2⟩
 | obj i =>
  obtain⟨a',k1,rfl⟩:=hb;obtain⟨o,g,e⟩:=ooO e;have oth:Jr7 (JcU o x)=some r→∃ t,(∀ ad h,Je c.ν ad h r (.bool t))∧JF c n ad fs st s (compareOp .In v (.ref a')) (.bool t)∧JF c n ad fs st s (compareOp .NotIn v (.ref a')) (.bool (!t)):=fun e=>by
   cases q:JcU o x with
   | none=>rw[q] at e; exact fo e
   | some o' =>
    rw[q] at e;obtain⟨a,ov,h1,h2,h3⟩:=Jgm R g q hx;obtain rfl:=sjt k1 h1;refine⟨ov.isSome,?_,fin rfl h2⟩
    cases o' with
    | some _ =>
     obtain rfl:=Jp e;obtain⟨u,rfl,h4⟩:=h3; exact fun _ _=>rfl
    | none =>
     obtain rfl:=Jp e;have h3:ov=none:=h3; subst h3; exact fun _ _=>rfl
  cases o with
  | cdict l =>
   have e:(match JbL l x with | some o=>(match o with | some (j,_)=>Jg3 dm j (.bool false) (.bool true) | none=>some (.bool false)) | none=>none)=some r:=e
   cases q:JbL l x with
   | none=>rw[q] at e; exact fo e
   | some o' =>
    rw[q] at e;obtain⟨a,ov,h1,h2,h3⟩:=JeG R g q hx;obtain rfl:=sjt k1 h1;refine⟨ov.isSome,?_,fin rfl h2⟩
    cases o' with
    | some p =>
     obtain⟨j,d⟩:=p;intro ad h;rcases h3 with ⟨z,rfl⟩ | ⟨z,u,rfl,h4⟩
     · exact JdV ok e (.inl z) (by rw[if_pos z]; exact rfl)
     · exact JdV ok e (.inr z) (by rw[if_neg (by omega)]; exact rfl)
    | none =>
     obtain rfl:=Jp e;have h3:ov=none:=h3;subst h3;exact fun _ _=>rfl
  | _=>exact oth e
 | _=>exact fo e
theorem Jjc (op:CmpOp)(R:Jk c ad fs st s.heap):∀ dm x y r,Jaj c.ν dm→JnK st op dm x y=some r→∀ v u,Je c.ν ad s.heap x v→Je c.ν ad s.heap y u→JF c n ad fs st s (compareOp op v u) r:=by
 intro dm x y r ok e v u hx hy;refine Jf fun n1G=>?_;have lits:∀ {f:Int→Int→Bool}{b:Bool},ltD f x y=some b→∃ i j t t',v=.int i t∧u=.int j t'∧f i j=b:=by
  intro f b q;refine Jf fun n2G=>?_;obtain⟨i,j,rfl,rfl,w⟩:=JnJ q;obtain⟨t,rfl⟩:=hx;obtain⟨t',rfl⟩:=hy;exact n2G ⟨i,j,t,t',rfl,rfl,w⟩
 cases op with
 | Eq =>
  have gen:ofB (eqX dm x y)=some r→JF c n ad fs st s (compareOp .Eq v u) r:=fun e=>by
   obtain⟨b,q,rfl⟩:=JcX e;obtain⟨p,q',h1,h2,h3,h4,h5⟩:=Jjp ok q hx hy;intro A Q hA w;refine SeqAt.compareEq_shaped h1 h2 h3 h4 hA.units ?_;rw[h5]; exact Ja3 R w
  cases x with
  | obj i =>
   cases y with
   | obj j=>exact n1G (JkR R ok e hx hy)
   | _=>exact fo e
  | _=>exact n1G (gen e)
 | NotEq =>
  obtain⟨b,q,rfl⟩:=Jc2 e;obtain⟨p,q',h1,h2,h3,h4,h5⟩:=Jjp ok q hx hy;refine n1G ?_;clear n1G;intro A Q hA w;refine SeqAt.compareNe_shaped h1 h2 h3 h4 hA.units ?_;rw[h5]; exact Ja3 R w
 | Lt =>
  obtain⟨b,q,rfl⟩:=JcX e;obtain⟨i,j,t,t',rfl,rfl,rfl⟩:=lits q;refine n1G ?_;clear n1G;intro A Q hA w;refine PyProof.Rows.lt_int ?_;rw[← JiT]; exact Ja3 R w
 | GtE =>
  obtain⟨b,q,rfl⟩:=Jc2 e;obtain⟨i,j,t,t',rfl,rfl,rfl⟩:=lits q;refine n1G ?_;clear n1G;intro A Q hA w;refine PyProof.Rows.ge_int ?_;have:decide (j≤i)=!iLt i j:=by rw[JiT,← decide_not]; exact decide_eq_decide.mpr Int.not_lt.symm
  rw[this]; exact Ja3 R w
 | Gt =>
  obtain⟨b,q,rfl⟩:=JcX e;obtain⟨i,j,t,t',rfl,rfl,rfl⟩:=lits q;refine n1G ?_;clear n1G;intro A Q hA w;refine PyProof.Rows.gt_int ?_;have:decide (j<i)=gtI i j:=(JiT j i).symm;rw[this]; exact Ja3 R w
 | LtE =>
  obtain⟨b,q,rfl⟩:=Jc2 e;obtain⟨i,j,t,t',rfl,rfl,rfl⟩:=lits q;refine n1G ?_;clear n1G;intro A Q hA w;refine PyProof.Rows.le_int ?_;have:decide (i≤j)=!gtI i j:=by
   show _=!iLt j i;rw[JiT,← decide_not]; exact decide_eq_decide.mpr Int.not_lt.symm
  rw[this]; exact Ja3 R w
 | Is =>
  obtain⟨b,q,rfl⟩:=JcX e;refine n1G ?_;clear n1G;intro A Q hA w;show wpAny _ _ (do return Value.bool (← isSame v u)) _ _ _
  exact wpAny_bind (Jn3 q hx hy (wpAny_pure (Ja3 R w)))
 | IsNot =>
  obtain⟨b,q,rfl⟩:=Jc2 e;refine n1G ?_;clear n1G;intro A Q hA w;show wpAny _ _ (do return Value.bool (!(← isSame v u))) _ _ _
  exact wpAny_bind (Jn3 q hx hy (wpAny_pure (Ja3 R w)))
 | In =>
  obtain⟨t,h1,h2,h3⟩:=Jon (n:=n) R ok e hx hy;refine n1G ?_;clear n1G;exact h2.imp fun ad h u z=>by have z:u=_:=z; subst z; exact h1 _ _
 | NotIn =>
  obtain⟨d,q,e⟩:=odO (show (match inD st dm x y with | some d=>JbP JFl 3 dm d | none=>none)=some r from e);obtain⟨t,h1,h2,h3⟩:=Jon (n:=n) R ok q hx hy;have:∀ ad h,Je c.ν ad h r (.bool (!t)):=fun ad h =>
   Jbr (ad:=ad) (h:=h) (P:=fun v r=>∀ b,v=.bool b→∀ ad h,Je c.ν ad h r (.bool (!b))) (fun v r r' i p b hb ad h=>i _ _ _ (p b hb ad h)) (fun dm x r _ e v hx b hb=>by
    subst hb
    cases x with
    | bool b' =>
     have hx:Value.bool b=_:=hx
     (injection hx with zz; subst zz); obtain rfl:=Jp e
     intro _ _;show _=_;rw[Jbj]
    | _=>exact fo e) 3 ok e (h1 ad h) t rfl ad h
  refine n1G ?_;clear n1G;exact h3.imp fun ad h u z=>by have z:u=_:=z; subst z; exact this _ _
theorem JhD (op:CmpOp)(R:Jk c ad fs st s.heap){x y r:D}(e:JuQ st op x y=some r){v u:Value}(hx:Je c.ν ad s.heap x v)(hy:Je c.ν ad s.heap y u):JF c n ad fs st s (compareOp op v u) r:=by
 have plain:∀ {op},Je2 (JnK st op) st.dom x y=some r→JF c n ad fs st s (compareOp op v u) r:=fun {op} e =>
  Jcc (P:=fun v u r=>JF c n ad fs st s (compareOp op v u) r) (fun v=>JF.closed (fun u=>compareOp op v u)) (Jjc op R) R.dom e hx hy
 cases op with
 | In =>
  have e:Jd8 (fun dm b a=>JnK st .In dm a b) st.dom y x=some r:=e;obtain⟨x',q,e⟩:=odO e;exact Jcc (P:=fun u v r=>JF c n ad fs st s (compareOp .In v u) r) (fun u=>JF.closed (fun v=>compareOp .In v u)) (fun dm y x r ok e u v hy hx=>Jjc .In R dm x y r ok e v u hx hy) R.dom e hy (Jfs 4 R.dom q hx)
 | _=>exact plain e
end
section
variable {prog:Program}{w:World}{A:Around}{E:Value→Shared→Prop}{s:Shared}
inductive JaV:Value→Option Nat→Prop where
 | none:JaV .none none
 | int (k:Nat) (t:Tok):JaV (.int (k:Int) t) (some k)
noncomputable def Ja9 (o:Option Nat)(n:Nat):Nat:=match o with | some k=>min k n | none=>0
noncomputable def JcO (o:Option Nat)(n:Nat):Nat:=match o with | some k=>min k n | none=>n
theorem JkB (lo hi:Option Nat)(n:Nat):Builtin.Slice.sliceAdjust (lo.map fun k=>((k:Nat):Int)) (hi.map fun k=>((k:Nat):Int)) 1 (n:Int)=((Ja9 lo n:Int),(JcO hi n:Int)):=by
 unfold Builtin.Slice.sliceAdjust;have h1:¬ ((1:Int)<0):=by decide
 have h2:∀ a:Nat,¬ ((a:Int)<0):=fun a=>by omega
 cases lo <;> cases hi <;> simp only[Option.map_none,Option.map_some,h1,h2,if_false,Ja9,JcO] <;> congr 1 <;> omega
theorem Jk8 (a b:Nat):Builtin.Slice.slicePlaces (a:Int) (b:Int) 1=b - a:=by
 unfold Builtin.Slice.slicePlaces;have h1:(1:Int) > 0:=by decide
 simp only[h1,if_true,Int.ediv_one];split <;> omega
theorem Jdy {v:Value}{o:Option Nat}(p:JaV v o){Q:Option Int→Shared→Prop}(h:Q (o.map fun k=>((k:Nat):Int)) s):wpAny (model prog w) A (Builtin.Slice.slicePartIndex v) Q E s:=by
 cases p with
 | none=>exact slicePart_none h
 | int k t=>exact slicePart_int h
theorem Jey {sl:Addr}{vl vu:Value}{lo hi:Option Nat}{n:Nat}{Q:Int×Int×Nat→Shared→Prop}(hs:s.heap.IsSliceOf sl vl vu .none)(pl:JaV vl lo)(pu:JaV vu hi)
  (h:Q ((Ja9 lo n:Int),1,JcO hi n - Ja9 lo n) s):wpAny (model prog w) A (Builtin.Slice.sliceApplied (.ref sl) (pure (n:Int))) Q E s:=by
 obtain⟨os,hos,hcs,hds⟩:=id hs;unfold Builtin.Slice.sliceApplied Builtin.Slice.sliceFields;refine wpAny_bind (wpAny_bind (wpAny_field hos hds (x:=vl) rfl (wpAny_bind (wpAny_field hos hds (x:=vu) rfl (wpAny_bind (wpAny_field hos hds (x:=.none) rfl (wpAny_pure ?_)))))));refine wpAny_bind (slicePart_none ?_);show wpAny _ _ (if ((1:Int)==0)=true then _ else _) _ _ s;rw[if_neg (by decide)];refine wpAny_bind (Jdy pl (wpAny_bind (Jdy pu (wpAny_bind (wpAny_pure ?_)))));show wpAny _ _ (match Builtin.Slice.sliceAdjust (lo.map fun k=>((k:Nat):Int)) (hi.map fun k=>((k:Nat):Int)) 1 (n:Int) with | (lo,hi)=>pure (lo,(1:Int),Builtin.Slice.slicePlaces lo hi 1)) _ _ s;rw[JkB];show wpAny _ _ (pure ((Ja9 lo n:Int),(1:Int),Builtin.Slice.slicePlaces (Ja9 lo n:Int) (JcO hi n:Int) 1)) _ _ s;rw[Jk8];exact wpAny_pure h
def Jch {α:Type}(lo hi:Option Nat)(l:List α):List α:=(l.drop (Ja9 lo l.length)).take (JcO hi l.length - Ja9 lo l.length)
theorem JnM (xs:Array Value)(a k:Nat):((List.range k).filterMap fun (k:Nat)=>xs[((a:Int)+(k:Int)*1).toNat]?).toArray=((xs.toList.drop a).take k).toArray:=by
 have e:(fun (k:Nat)=>xs[((a:Int)+(k:Int)*1).toNat]?)=fun k=>xs[a+k]?:=by
  funext k
  have:((a:Int)+(k:Int)*1).toNat=a+k:=by omega
  rw[this]
 rw[e];have:=pick_run xs a k;rw[List.filterMap_map] at this;have e2:((fun x=>xs[x]?) ∘ fun x=>a+x)=fun k=>xs[a+k]?:=rfl;rw[e2] at this;rw[this]
theorem Jec {t sl:Addr}{items:Array Value}{vl vu:Value}{lo hi:Option Nat}{Q:Value→Shared→Prop}(ht:IsTup s.heap t items)(hs:s.heap.IsSliceOf sl vl vu .none)(pl:JaV vl lo)(pu:JaV vu hi)
  (h0:Jch lo hi items.toList=items.toList→Q (.ref t) s)
  (h:Q (.ref s.heap.objs.size) { s with heap:=s.heap.push { cls:=.type "tuple",data:=.seq (Jch lo hi items.toList).toArray } })
  (hsz:items.size≤sizeLine):wpAny (model prog w) A (getItem (.ref t) (.ref sl)) Q E s:=by
 have hdrop:sizeOk (.seq (Jch lo hi items.toList).toArray):=by
  show (Jch lo hi items.toList).toArray.size≤sizeLine;rw[List.size_toArray];unfold Jch;rw[List.length_take,List.length_drop,Array.length_toList];omega
 obtain⟨os,hos,hcs,hds⟩:=id hs;have hTs:s.TypeIs (.ref sl) "slice":=⟨os,hos,hcs⟩;unfold getItem
 try with_reducible refine wpAny_holding ?_
 first | refine wpAny_bind (wpAny_pure ?_) | skip
 refine wpAny_bind (wpAny_sequenceKey ht.typeIs (by decide) ?_);refine wpAny_bind (wpAny_callSpecial?_slot (name:=Str.ofString "__getitem__") ht.typeIs slot_tuple_getitem
  (wpAny_call_entry slot_tuple_getitem ht.typeIs entry_tuple_getitem ?_ (args_tuple_getitem _ _)))
 show wpAny _ _ (Builtin.Tuple.tupleItemsOf (.ref t) >>= _) _ _ s;refine wpAny_bind (tupleItemsOf_ ht ?_);refine wpAny_bind (wpAny_typeOf hTs ?_);rw[if_pos (by decide)];refine wpAny_bind (Jey (n:=items.size) hs pl pu ?_);show wpAny _ _ (if ((Ja9 lo items.size:Int)==0&&(1:Int)==1&&(JcO hi items.size - Ja9 lo items.size)==items.size)=true then _ else _) _ _ s;by_cases hno:((Ja9 lo items.size:Int)==0&&(1:Int)==1&&(JcO hi items.size - Ja9 lo items.size)==items.size)=true
 · rw[if_pos hno];simp only[Bool.and_eq_true,beq_iff_eq] at hno;have z0:Ja9 lo items.size=0:=by omega
   have whole:Jch lo hi items.toList=items.toList:=by
    unfold Jch;rw[Array.length_toList,hno.2,z0,List.drop_zero,List.take_of_length_le (by simp)]
   unfold Builtin.Tuple.tupleIsExact;refine wpAny_bind (wpAny_bind (wpAny_typeOf ht.typeIs (wpAny_pure ?_)));rw[if_pos (by decide)]
   first
    | exact wpAny_bind (wpAny_rule (wpAny_pure ⟨_,rfl,wpAny_pure (h0 whole)⟩))
    | exact wpAny_bind (wpAny_rule (wpAny_bind (wpAny_pure (wpAny_pure ⟨_,rfl,wpAny_pure (h0 whole)⟩))))
 · rw[if_neg hno,JnM];have e:(items.toList.drop (Ja9 lo items.size)).take (JcO hi items.size - Ja9 lo items.size)=Jch lo hi items.toList:=by unfold Jch; rw[Array.length_toList]
   rw[e]
   first
    | exact wpAny_bind (m:=Builtin.Tuple.tupleExact _) (wpAny_newObj_type (wpAny_pure ⟨_,rfl,wpAny_pure h⟩) hdrop)
    | exact wpAny_bind (m:=Builtin.Tuple.tupleExact _) (wpAny_newObj_type (wpAny_bind (wpAny_pure (wpAny_pure ⟨_,rfl,wpAny_pure h⟩))) hdrop)
    | exact wpAny_bind (wpAny_bind (m:=Builtin.Tuple.tupleExact _) (wpAny_newObj_type (wpAny_pure (wpAny_pure ⟨_,rfl,wpAny_pure h⟩)) hdrop))
    | exact wpAny_bind (wpAny_bind (m:=Builtin.Tuple.tupleExact _) (wpAny_newObj_type (wpAny_pure ⟨_,rfl,wpAny_pure h⟩) hdrop))
theorem Jqj {α:Type}(l:List α)(a:Nat):Jch (some a) none l=l.drop a:=by
 unfold Jch Ja9 JcO;simp only;by_cases h:a≤l.length
 · rw[Nat.min_eq_left h,List.take_of_length_le (by simp)]
 · rw[Nat.min_eq_right (by omega),List.drop_of_length_le (Nat.le_refl _),List.drop_of_length_le (by omega)]; simp
theorem Jqv {α:Type}(l:List α)(b:Nat):Jch none (some b) l=l.take b:=by
 unfold Jch Ja9 JcO;simp only[List.drop_zero,Nat.sub_zero];by_cases h:b≤l.length
 · rw[Nat.min_eq_left h]
 · rw[Nat.min_eq_right (by omega),List.take_of_length_le (Nat.le_refl _),List.take_of_length_le (by omega)]
theorem JmP {α:Type}(l:List α)(a b:Nat):Jch (some a) (some b) l=(l.take b).drop a:=by
 unfold Jch Ja9 JcO;simp only;rw[List.drop_take];by_cases h:a≤l.length
 · rw[Nat.min_eq_left h];by_cases h2:b≤l.length
   · rw[Nat.min_eq_left h2]
   · rw[Nat.min_eq_right (by omega),List.take_of_length_le (by simp),List.take_of_length_le (by simp; omega)]
 · have e1:l.drop (min a l.length)=[]:=List.drop_of_length_le (by omega);have e2:l.drop a=[]:=List.drop_of_length_le (by omega);rw[e1,e2]; simp
end
section
variable {ν:Vl}{ad:List Addr}{h:Heap}
theorem Jj6:∀ (k:Nat) {l:List D}{vs:List Value},Je.goL ν ad h l vs→Je.goL ν ad h (l.drop k) (vs.drop k)
 | 0,_,_,x=>x
 | k+1,[],_,x=>by have x:_=[]:=x; subst x; exact rfl
 | k+1,d::l,_,⟨v,r,e,_,y⟩=>by subst e; exact Jj6 k y
theorem JjX:∀ (k:Nat) {l:List D}{vs:List Value},Je.goL ν ad h l vs→Je.goL ν ad h (l.take k) (vs.take k)
 | 0,_,_,x=>rfl
 | k+1,[],_,x=>by have x:_=[]:=x; subst x; exact rfl
 | k+1,d::l,_,⟨v,r,e,x,y⟩=>by subst e; exact⟨v,r.take k,rfl,x,JjX k y⟩
theorem Jlf (lo hi:Option Nat){l:List D}{vs:List Value}(x:Je.goL ν ad h l vs):Je.goL ν ad h (Jch lo hi l) (Jch lo hi vs):=by
 have n:=Jm x;unfold Jch;rw[n];exact JjX _ (Jj6 _ x)
theorem Jc4:∀ {l:List D}{vs:List Value}{k:Nat}{d:D},Je.goL ν ad h l vs→Js l k=some d→∃ v,vs[k]?=some v∧Je ν ad h d v:=by
 intro l
 induction l with
 | nil=>intro vs k d _ e; rw[JG] at e; cases e
 | cons x l ih =>
  rintro vs k d ⟨v,r,rfl,a,b⟩ e;rw[JG] at e
  cases k with
  | zero=>obtain rfl:=Jp e; exact⟨v,rfl,a⟩
  | succ k =>
   obtain⟨w,h1,h2⟩:=ih (k:=k) (d:=d) b (by rw[JG]; simpa using e);exact⟨w,by simpa using h1,h2⟩
end
def JaY (c:Jx)(ad:List Addr)(fs:List JH)(s:Shared)(k:D→St→Bool)(Q:Value→Shared→Prop):Prop :=
 ∀ ad' st' s' v d,Jk c ad' fs st' s'.heap→JN ad fs s ad' s'→Je c.ν ad' s'.heap d v→k d st'=true→Q v s'
theorem JaY.step {c:Jx}{ad ad1:List Addr}{fs:List JH}{s s1:Shared}{st1:St}{k:D→St→Bool}{Q:Value→Shared→Prop}(p:JaY c ad fs s k Q)(x:JN ad fs s ad1 s1)(R:Jk c ad1 fs st1 s1.heap):JaY c ad1 fs s1 k Q :=
 fun ad' st' s' v d R' y i e=>p ad' st' s' v d R' (x.trans R y) i e
theorem Ja5 {o:Option D}{st:St}{k:D→St→Bool}(e:kO o st k=true):∃ d,o=some d∧k d st=true:=by
 cases o with
 | none=>exact ff e
 | some d=>exact⟨d,rfl,e⟩
section
variable {c:Jx}{n:Nat}{ad:List Addr}{fs:List JH}{st:St}{s:Shared}
theorem JF.post {t:Sem Value}{r:D}(g:JF c n ad fs st s t r){A:Around}(hA:Jz A n){k:D→St→Bool}{Q:Value→Shared→Prop}(e:k r st=true)(p:JaY c ad fs s k Q):wpAny (model c.prog c.w) A t Q (fun _ _=>False) s :=
 g A Q hA fun s' v R x i=>p ad st s' v r R x i e
def Jfa (c:Jx)(n:Nat)(ad:List Addr)(fs:List JH)(st:St)(s:Shared)(v u:Value)(r:D):Prop :=
 (∃ T id,s.TypeIs v T∧typeLookup (.type T) "__getitem__"=pure (some (.builtin id)))∧JF c n ad fs st s (getItem v u) r
theorem Jfa.closed (v:Value):Jfu c.ν (fun u r=>Jfa c n ad fs st s v u r):=fun _ _ _ i g=>⟨g.1,g.2.imp i⟩
theorem JcA {d:D}{k:Nat}(e:Jek d=some k):d=.int (.lit (.ofNat k))∧k<1073741824:=by
 cases d with
 | int a =>
  cases a with
  | lit i =>
   cases i with
   | ofNat m=>obtain⟨z,e⟩:=bmO e; obtain rfl:=Jp e; exact⟨rfl,Nat.blt_eq.mp z⟩
   | negSucc _=>exact fo e
  | _=>exact fo e
 | _=>exact fo e
mutual
theorem Jlu {ν:Vl}{h:Heap}:∀ {d:D}{v:Value},Jdc d=true→IsP h (pyD d) v→Je ν ad h d v
 | .int (.lit i),v,_,x=>by
  have x:∃ t,v=.int i t:=x;obtain⟨t,e⟩:=x; exact⟨t,e⟩
 | .tup l,v,z,x=>by
  obtain⟨a,items,e,t,r⟩:=x;exact⟨a,items,e,t,Jjq (l:=l) z r⟩
 | .int (.var _ _),_,z,_=>by cases z
 | .int (.op _ _ _),_,z,_=>by cases z
 | .none,_,z,_=>by cases z
 | .bool _,_,z,_=>by cases z
 | .str _,_,z,_=>by cases z
 | .obj _,_,z,_=>by cases z
 | .tab _ _,_,z,_=>by cases z
 | .opq _,_,z,_=>by cases z
theorem Jjq {ν:Vl}{h:Heap}:∀ {l:List D}{vs:List Value},Jdc.go l=true→IsP.go h (pyD.go l) vs→Je.goL ν ad h l vs
 | [],vs,_,x=>x
 | d::l,vs,z,x=>by
  obtain⟨v,r,e,x1,x2⟩:=x;have z1:=And.left (Ja.mp z); have z2:=And.right (Ja.mp z);exact⟨v,r,e,Jlu z1 x1,Jjq z2 x2⟩
end
theorem Jh8 {h:Heap}:∀ {l:List PyData}{vs:List Value}{k:Nat}{x:PyData},IsP.go h l vs→l[k]?=some x→∃ v,vs[k]?=some v∧IsP h x v
 | y::l,_,0,x,⟨v,r,e,x1,x2⟩,q=>by
  subst e;obtain rfl:=Jp q;exact⟨v,rfl,x1⟩
 | y::l,_,k+1,x,⟨v,r,e,x1,x2⟩,q=>by
  subst e;exact Jh8 (k:=k) x2 q
 | [],_,k,x,_,q=>fo q
theorem Jje:∀ {l:List D}{n:Nat}{d:D},Js l n=some d→(pyD.go l)[n]?=some (pyD d)
 | y::l,0,d,e=>by cases e; rfl
 | y::l,n+1,d,e=>by
  exact Jje (l:=l) (n:=n) e
 | [],n,d,e=>fo e
theorem Jeg:∀ {l:List D}{n:Nat}{d:D},Jdc.go l=true→Js l n=some d→Jdc d=true
 | y::l,0,d,z,e=>by cases e; exact (Ja.mp z).1
 | y::l,n+1,d,z,e=>Jeg (l:=l) (Ja.mp z).2 e
 | [],n,d,z,e=>fo e
theorem Jiw:Jdc.go Jae=true:=by decide +kernel
theorem JqH:JFG=.tup ((List.range 10).map fun j=>.tab j ((List.range (JW.getD j 0)).map fun v=>(v,I v))):=by rfl
theorem Jl3 {n u:Nat}(h:u<n):lkp ((List.range n).map fun v=>(v,I v)) u=some (I u):=by
 have:∀ (l:List Nat),u∈l→lkp (l.map fun v=>(v,I v)) u=some (I u):=by
  intro l
  induction l with
  | nil=>intro m; cases m
  | cons x r ih =>
   intro m;rw[List.map_cons,JJ];by_cases q:x=u
   · subst q; rw[if_pos rfl]
   · rw[if_neg q]
     cases m with
     | head=>exact absurd rfl q
     | tail _ m=>exact ih m
 exact this _ (List.mem_range.mpr h)
theorem Jgw {ν:Vl}{h:Heap}(dg:∀ j r,Js JW j=some r→ν.dg j<r):∀ (l:List Nat),(∀ j∈l,j<10)→∀ {vs:List Value},IsP.go h (l.map fun j=>.int (ν.dg j)) vs→Je.goL ν ad h (l.map fun j=>.tab j ((List.range (JW.getD j 0)).map fun v=>(v,I v))) vs
 | [],_,_,x=>x
 | j::l,hj,vs,x=>by
  obtain⟨v,r,e,x1,x2⟩:=x;refine⟨v,r,e,?_,Jgw dg l (fun i hi=>hj i (.tail _ hi)) x2⟩;have j10:=hj j (.head _);have hr:Js JW j=some (JW.getD j 0):=by
   rw[JG];have:j<JW.length:=j10;rw[List.getElem?_eq_getElem this,List.getD_eq_getElem?_getD,List.getElem?_eq_getElem this]; rfl
  have lt:=dg j _ hr;obtain⟨t,rfl⟩:=x1;exact JbA.mpr ⟨_,Jl3 lt,t,rfl⟩
theorem JpU {h:Heap}{x r:D}(e:Jtv [] x=some r){u:Value}(hx:Je c.ν ad h x u){vs:List Value}(pre:IsP.go h (c.ν.pre 6) vs):∃ (k:Nat) (t:Tok) (v:Value),u=.int k t∧vs[k]?=some v∧Je c.ν ad h r v:=by
 refine Jf fun n1G=>?_
 cases x with
 | int x =>
  cases x with
  | lit i =>
   cases i with
   | ofNat n =>
    have e:Js Jae n=some r:=e;obtain⟨t,rfl⟩:=hx;obtain⟨r',hr⟩:=c.firstOk;have q:=Jje e;obtain⟨v,h1,h2⟩:=Jh8 (k:=n) pre (x:=pyD r) (by
     rw[hr,List.getElem?_append_left (List.getElem?_eq_some_iff.mp q).1]; exact q)
    exact n1G ⟨n,t,v,rfl,h1,Jlu (Jeg Jiw e) h2⟩
   | negSucc _=>exact fo e
  | var t0 o =>
   obtain⟨z,e⟩:=bmO e;obtain rfl:=Jp e;obtain⟨z1,z2⟩:=Ja.mp z;obtain rfl:=nbq z1;obtain rfl:=JbS.mp z2;obtain⟨k,k1,k2,k3⟩:=c.askOk;obtain⟨t,rfl⟩:=hx;obtain⟨v,h1,h2⟩:=Jh8 pre k2;refine n1G ?_;clear n1G;refine⟨k,t,v,?_,h1,?_⟩
   · have:IE.val c.ν (.var 3 (.negSucc 199))=k:=by
       show c.ν.iv 3+Int.negSucc 199=k;rw[k1];omega
     rw[this]
   · refine Jf fun n2G=>?_;obtain⟨a,items,e1,e2,e3⟩:=h2;refine n2G ?_;clear n2G;rw[JqH];have e3:IsP.go h ((List.range 10).map fun j=>.int (c.ν.dg j)) items.toList:=by
      generalize ((List.range 10).map fun j=>PyData.int (c.ν.dg j))=l at e3 ⊢;exact e3
     exact⟨a,items,e1,e2,Jgw k3 _ (fun j hj=>List.mem_range.mp hj) e3⟩
  | op _ _ _=>exact fo e
 | _=>exact fo e
theorem JqJ (R:Jk c ad fs st s.heap){l:List D}{x r:D}{v u:Value}(e:(match Jek x with | some i=>Js l i | none=>none)=some r)(hx:Je c.ν ad s.heap (.tup l) v)(hy:Je c.ν ad s.heap x u):Jfa c n ad fs st s v u r:=by
 obtain⟨i,q,e2⟩:=onO e;obtain⟨rfl,lt⟩:=JcA q;obtain⟨a,vs,rfl,t1,z1⟩:=hx.tup_inv;obtain⟨w,h1,h2⟩:=Jc4 z1 e2;obtain⟨t,rfl⟩:=hy;refine⟨⟨_,_,Heap.IsTuple.typeIs t1,slot_tuple_getitem.lookup⟩,fun A Q hA q=>?_⟩;have hl:i<vs.length:=(List.getElem?_eq_some_iff.mp h1).1;show wpAny _ A (getItem (.ref a) (.int (i:Int) t)) Q _ s;refine PyProof.Rows.getItem_tuple (j:=i) (x:=w) t1 (by omega) (by omega) ?_ (by rw[List.getElem?_toArray]; exact h1) (JbQ R h2 q);unfold seqIndex?;rw[List.size_toArray];have a1:¬ ((i:Int)<0):=fun h=>nomatch h;have a2:(decide (0≤(i:Int))&&decide ((i:Int)<(vs.length:Int)))=true:=by rw[Bool.and_eq_true,decide_eq_true_iff,decide_eq_true_iff]; omega
 rw[if_neg a1,if_pos a2]; rfl
theorem JmO (R:Jk c ad fs st s.heap){i:Nat}{l:List D}(g:st.objs.get i=some (.list 0 l)){x r:D}{a:Addr}{u:Value}(k1:ad[i]?=some a)(e:(match Jek x with | some i=>Js l i | none=>none)=some r)(hy:Je c.ν ad s.heap x u):Jfa c n ad fs st s (.ref a) u r:=by
 refine Jf fun n1G=>?_;obtain⟨i',q,e2⟩:=onO e;obtain⟨rfl,lt⟩:=JcA q;obtain⟨v2,g1,g4⟩:=R.list0 g k1;have g1:=g1.isList;obtain⟨t,rfl⟩:=hy;obtain⟨w,z1,z2⟩:=Jc4 g4 e2;refine n1G ?_;clear n1G;refine⟨⟨_,_,g1.typeIs,list_getitem_lookup⟩,fun A Q hA q=>?_⟩;have hv:IE.val c.ν (.lit (.ofNat i'))=(i':Int):=rfl;rw[hv];refine wpAny_getItem_list (x:=w) g1 (by omega) (by omega) ?_ (JbQ R z2 q);rw[List.getElem?_toArray];exact z1
theorem Jmn (R:Jk c ad fs st s.heap){i:Nat}{l:List D}(g:st.objs.get i=some (.list 6 l)){x r:D}{a:Addr}{u:Value}(k1:ad[i]?=some a)(e:Jtv l x=some r)(hy:Je c.ν ad s.heap x u):Jfa c n ad fs st s (.ref a) u r:=by
 refine Jf fun n1G=>?_;obtain⟨a',h1,h2,h3⟩:=R.objs _ _ g;obtain rfl:=sjt k1 h1;obtain⟨items,v1,v2,g1,g2,g3,g4⟩:=h2;have g1:=g1.isList;unfold Jac at g3;rw[if_neg (by decide)] at g3;have g5:=g3.2.2 (.inr rfl)
 cases l with
 | cons _ _=>exact fo e
 | nil =>
  have g4:v2=[]:=g4;subst g4;rw[List.append_nil] at g2;obtain⟨k,t,v,rfl,h4,h5⟩:=JpU e hy g5;have hk:k<v1.length:=(List.getElem?_eq_some_iff.mp h4).1;have:=g3.2.1;refine n1G ?_;clear n1G;refine⟨⟨_,_,g1.typeIs,list_getitem_lookup⟩,fun A Q hA q=>?_⟩;refine wpAny_getItem_list (x:=v) g1 (by omega) (by omega) ?_ (JbQ R h5 q);rw[← Array.getElem?_toList,g2];exact h4
theorem Jmu (R:Jk c ad fs st s.heap){i t':Nat}{l:List D}(g:st.objs.get i=some (.list (t'+1) l)){x r:D}{a:Addr}{u:Value}(k1:ad[i]?=some a)(e:(match x with | .int (.var u (.ofNat k))=>(match Jh (Nat.beq (t'+1) u) (Nat.blt k 1073741824) with | true=>Js l k | false=>none) | _=>none)=some r)(hy:Je c.ν ad s.heap x u):Jfa c n ad fs st s (.ref a) u r:=by
 refine Jf fun n1G=>?_
 cases x with
 | int x =>
  cases x with
  | var u' o =>
   cases o with
   | negSucc _=>exact fo e
   | ofNat k =>
    obtain⟨q,e2⟩:=bmO e;obtain⟨q,lt⟩:=Ja.mp q;have lt:=Nat.blt_eq.mp lt;obtain rfl:=nbq q;obtain⟨a',h1,h2,h3⟩:=R.objs _ _ g;obtain rfl:=sjt k1 h1;obtain⟨items,v1,v2,g1,g2,g3,g4⟩:=h2;have g1:=g1.isList;obtain⟨t,rfl⟩:=hy;unfold Jac at g3;rw[if_neg (Nat.succ_ne_zero _)] at g3;obtain⟨w,z1,z2⟩:=Jc4 g4 e2;have hv:IE.val c.ν (.var (t'+1) (.ofNat k))=((v1.length+k:Nat):Int):=by
     show c.ν.iv (t'+1)+(k:Int)=_;rw[← g3.1];rfl
    refine n1G ?_;clear n1G;refine⟨⟨_,_,g1.typeIs,list_getitem_lookup⟩,fun A Q hA q=>?_⟩;rw[hv];have:=g3.2.1;refine wpAny_getItem_list (x:=w) g1 (by omega) (by omega) ?_ (JbQ R z2 q);rw[← Array.getElem?_toList,g2];show (v1++v2)[v1.length+k]?=some w;rw[List.getElem?_append_right (Nat.le_add_right _ _),Nat.add_sub_cancel_left];exact z1
  | _=>exact fo e
 | _=>exact fo e
theorem Jmj (R:Jk c ad fs st s.heap){i:Nat}{l:List (Nat×D×D)}(g:st.objs.get i=some (.cdict l)){dm:JP}(ok:Jaj c.ν dm){x r:D}{a:Addr}{u:Value}(k1:ad[i]?=some a)(e:(match JbL l x with
        | some (some (j,v))=>match J5 dm j with | [u]=>(match Nat.beq u 1 with | true=>some v | false=>none) | _=>none
        | _=>none)=some r) (hy:Je c.ν ad s.heap x u):Jfa c n ad fs st s (.ref a) u r:=by
 cases q:JbL l x with
 | none=>rw[q] at e; exact fo e
 | some p =>
  rw[q] at e
  cases p with
  | none=>exact fo e
  | some p =>
   obtain⟨j,v'⟩:=p;obtain⟨a',ov,h1,F,h3⟩:=JeG R g q hy;obtain rfl:=sjt k1 h1;have e:(match J5 dm j with | [u]=>(match Nat.beq u 1 with | true=>some v' | false=>none) | _=>none)=some r:=e
   cases w:J5 dm j with
   | nil=>rw[w] at e; exact fo e
   | cons u' l' =>
    rw[w] at e
    cases l' with
    | cons _ _=>exact fo e
    | nil =>
     obtain⟨z,e⟩:=bmO e;obtain rfl:=nbq z;obtain rfl:=Jp e;have mem:=ok.mem (j:=j) (by rw[w]; exact List.cons_ne_nil _ _);rw[w] at mem;have mem:=List.mem_singleton.mp mem;rcases h3 with ⟨z,_⟩ | ⟨z,u2,rfl,h4⟩
     · omega
     · exact⟨⟨_,_,F.typ,slot_dict_getitem.lookup⟩,fun A Q hA q=>F.item hA.units rfl fun k=>Jaq R h4 q⟩
theorem Joe (R:Jk c ad fs st s.heap):∀ dm x y r,Jaj c.ν dm→Jyb st dm x y=some r→∀ v u,Je c.ν ad s.heap x v→Je c.ν ad s.heap y u→Jfa c n ad fs st s v u r:=by
 intro dm x y r ok e v u hx hy;refine Jf fun n1G=>?_
 cases x with
 | tup l =>
  exact n1G (JqJ R e hx hy)
 | obj i =>
  obtain⟨a,k1,rfl⟩:=hx;obtain⟨o,g,e⟩:=ooO e;have oth:(match JcU o y with | some o=>o | none=>none)=some r→Jfa c n ad fs st s (.ref a) u r:=fun e=>by
   refine Jf fun n2G=>?_
   cases q:JcU o y with
   | none=>rw[q] at e; exact fo e
   | some o' =>
    rw[q] at e;obtain⟨a',ov,h1,F,h3⟩:=Jgm R g q hy;obtain rfl:=sjt k1 h1;have e:o'=some r:=e;subst e;obtain⟨u2,rfl,h4⟩:=h3;exact n2G ⟨⟨_,_,F.typ,slot_dict_getitem.lookup⟩,fun A Q hA q=>F.item hA.units rfl fun k=>Jaq R h4 q⟩
  cases o with
  | list t l =>
   cases t with
   | zero =>
    exact n1G (JmO R g k1 e hy)
   | succ t' =>
    rcases bm e with ⟨t5,e⟩ | ⟨_,e⟩
    · obtain rfl:=nbq t5;exact n1G (Jmn R g k1 e hy)
    · exact n1G (Jmu R g k1 e hy)
  | cdict l =>
   exact n1G (Jmj R g ok k1 e hy)
  | _ =>
   exact n1G (oth e)
 | _=>exact fo e
end
section
variable {c:Jx}{n:Nat}{ad:List Addr}{fs:List JH}{st:St}{s:Shared}
theorem JlX {l r:List D}{d:D}(e:Jn2 l r=some d):l.length≤1000∧d=.tup r:=by
 obtain⟨z,e⟩:=bmO e;exact⟨Jy z,(Jp e).symm⟩
noncomputable abbrev JbD (s:Shared)(vl vu:Value):Shared:={ s with heap:=s.heap.push { cls:=.type "slice",data:=.fields #[vl,vu,.none] } }
def JkU (c:Jx)(n:Nat)(ad:List Addr)(fs:List JH)(st:St)(s:Shared)(vl v vu:Value)(r:D):Prop :=
 s.TypeIs v "tuple"∧JF c n ad fs st (JbD s vl vu) (getItem v (.ref s.heap.objs.size)) r
theorem Jk5 (R:Jk c ad fs st s.heap){l:List D}{lo hi:Option Nat}{vl vu v:Value}{r:D}(e:Jn2 l (Jch lo hi l)=some r)(pl:JaV vl lo)(pu:JaV vu hi)(hx:Je c.ν ad s.heap (.tup l) v):JkU c n ad fs st s vl v vu r:=by
 obtain⟨len,rfl⟩:=JlX e;obtain⟨a,vs,rfl,t1,z1⟩:=hx.tup_inv;have n1:=Jm z1;refine⟨Heap.IsTuple.typeIs t1,fun A Q hA q=>?_⟩;have R':Jk c ad fs st (JbD s vl vu).heap:=R.push _;have k1:=Jam s.heap ({ cls:=.type "slice",data:=.fields #[vl,vu,.none] }:Obj);have zz:=Je.monoL (ad:=ad) (ad':=ad) k1 (fun _ _ e=>e) z1;have hs:=Heap.IsSliceOf.new s.heap vl vu .none;refine Jec (s:=JbD s vl vu) (items:=vs.toArray) (t1.push _) hs pl pu (fun w=>?_) ?_ (by rw[List.size_toArray,sizeLine_eq]; omega)
 · refine q _ _ R' (.refl _ _ _) ?_;have w:Jch lo hi vs=vs:=w;have:=Jlf lo hi zz;rw[w] at this;exact Jcu (t1.push _) this
 · refine q _ _ (R'.push _) (.grow (fun _ _ e=>Heap.get?_push_of_some _ e) rfl rfl rfl) ?_;exact Jcu (Jfv _ _) (Je.monoL (Jam _ _) (fun _ _ e=>e) (Jlf lo hi zz))
theorem Jha {v:Value}(x:Je c.ν ad s.heap .none v):JaV v none:=by have x:v=_:=x; subst x; exact .none
theorem JdU {v:Value}{k:Nat}(x:Je c.ν ad s.heap (.int (.lit (.ofNat k))) v):JaV v (some k):=by obtain⟨t,rfl⟩:=x; exact .int k t
theorem Jpg (R:Jk c ad fs st s.heap){lo x hi r:D}(e:Je2 (Jpi lo) st.dom x hi=some r){vl v vu:Value}(hl:Je c.ν ad s.heap lo vl)(hx:Je c.ν ad s.heap x v)(hu:Je c.ν ad s.heap hi vu):JkU c n ad fs st s vl v vu r:=by
 refine Jcc (P:=fun v u r=>JkU c n ad fs st s vl v u r) (fun v _ _ _ i g=>⟨g.1,g.2.imp i⟩) (fun dm x hi r _ e v u hx hu=>?_) R.dom e hx hu;refine Jf fun n1G=>?_
 cases x with
 | tup l =>
  cases lo with
  | none =>
   cases hi with
   | int b =>
    cases b with
    | lit b =>
     cases b with
     | ofNat b =>
      refine n1G ?_;clear n1G;exact Jk5 R (by rw[Jqv]; exact e) (Jha hl) (JdU hu) hx
     | negSucc _=>exact fo e
    | _=>exact fo e
   | _=>exact fo e
  | int a =>
   cases a with
   | lit a =>
    cases a with
    | ofNat a =>
     cases hi with
     | none =>
      refine n1G ?_;clear n1G;exact Jk5 R (by rw[Jqj]; exact e) (JdU hl) (Jha hu) hx
     | int b =>
      cases b with
      | lit b =>
       cases b with
       | ofNat b =>
        refine n1G ?_;clear n1G;exact Jk5 R (by rw[JmP]; exact e) (JdU hl) (JdU hu) hx
       | negSucc _=>exact fo e
      | _=>exact fo e
     | _=>exact fo e
    | negSucc _=>exact fo e
   | _=>exact fo e
  | _=>exact fo e
 | _=>exact fo e
theorem Jl (h:Heap):h.get? h.objs.size=none:=by
 cases e:h.get? h.objs.size with
 | none=>rfl
 | some o=>exact absurd (Heap.lt_size e) (Nat.lt_irrefl _)
theorem JfI (R:Jk c ad fs st s.heap){h':Heap}(k:∀ b o,s.heap.get? b=some o→h'.get? b=some o){a:Addr}(ha:s.heap.get? a=none){vs:List Value}(hl:h'.PlainList a vs.toArray){l:List D}(z:Je.goL c.ν ad s.heap l vs) :
  Jk c (ad++[a]) fs (st.alloc (.list 0 l)) h' :=
 R.alloc k ha ⟨_,[],vs,hl,rfl,rfl,Je.monoL (JaB.of_all k).tup (Pre.snoc ad a) z⟩ (fun _ _ e=>by cases e)
theorem JcB (R:Jk c ad fs st s.heap){a:Addr}{h:Heap}:Je c.ν (ad++[a]) h (.obj st.n) (.ref a) :=
 ⟨a,by rw[← R.len,List.getElem?_append_right (Nat.le_refl _),Nat.sub_self]; rfl,rfl⟩
noncomputable def biV:Nat→Value
 | 0=>.builtin "len"
 | 1=>.type "str"
 | 2=>.type "tuple"
 | 3=>.type "list"
 | _=>.type "range"
theorem Jre (R:Jk c ad fs st s.heap){a d:D}{v:Value}(e:JbP Jr9 8 st.dom a=some d)(x:Je c.ν ad s.heap a v):JF c n ad fs st s (call (.builtin "len") [v]) d:=by
 refine Jbr (P:=fun v r=>JF c n ad fs st s (call (.builtin "len") [v]) r) (JF.closed (fun v=>call (.builtin "len") [v])) (fun dm x r _ e v hx=>?_) 8 R.dom e x;refine Jf fun n1G=>?_
 cases x with
 | tup l =>
  obtain⟨z,e⟩:=bmO e;obtain rfl:=Jp e;have len:=Jy z;obtain⟨a,vs,rfl,t1,z1⟩:=hx.tup_inv;have n1:=Jm z1;refine n1G ?_;clear n1G;intro A Q hA q;refine PyProof.Rows.len_tuple (items:=vs.toArray) t1 (by rw[List.size_toArray]; omega) ?_;rw[List.size_toArray,n1];exact Jaq (r:=I _) R ⟨_,rfl⟩ q
 | _=>exact fo e
theorem JmE (R:Jk c ad fs st s.heap){i t:Nat}{l:List D}(g:st.objs.get i=some (.list t l))(z:JU l=true){a:Addr}(k1:ad[i]?=some a):E1 (fun items=>s.heap.IsList a items∧items.size<2000000) fun items=>Je c.ν ad s.heap (match t with | 0=>I l.length | t+1=>.int (.var (t+1) (.ofNat l.length))) (.int items.size s.toks):=by
 obtain⟨a',h1,h2,h3⟩:=R.objs _ _ g;obtain rfl:=sjt h1 k1;obtain⟨items,v1,v2,g1,g2,g3,g4⟩:=h2;have g1:=g1.isList;have n1:=Jm g4;have ni:items.size=v1.length+l.length:=by rw[← Array.length_toList,g2,List.length_append,n1]
 have len:=Jy z
 cases t with
 | zero =>
  have g3:v1=[]:=g3;subst g3;have ni:items.size=l.length:=by rw[ni,List.length_nil,Nat.zero_add]
  exact⟨items,⟨g1,by omega⟩,s.toks,by rw[ni]; rfl⟩
 | succ t' =>
  unfold Jac at g3;rw[if_neg (Nat.succ_ne_zero _)] at g3;have:=g3.2.1;refine⟨items,⟨g1,by omega⟩,s.toks,?_⟩;have:IE.val c.ν (.var (t'+1) (.ofNat l.length))=(items.size:Int):=by
   show c.ν.iv (t'+1)+(l.length:Int)=_;rw[ni,← g3.1];rfl
  rw[this]
theorem JvA (R:Jk c ad fs st s.heap){a:D}{k:D→St→Bool}(e:JDQ a st k=true){v:Value}(x:Je c.ν ad s.heap a v){A:Around}(hA:Jz A n){Q:Value→Shared→Prop}(p:JaY c ad fs s k Q) :
  wpAny (model c.prog c.w) A (call (.builtin "len") [v]) Q (fun _ _=>False) s:=by
 have other:kO (JbP Jr9 8 st.dom a) st k=true→wpAny (model c.prog c.w) A (call (.builtin "len") [v]) Q (fun _ _=>False) s:=fun e=>by
  obtain⟨d,h1,h2⟩:=Ja5 e;exact (Jre (n:=n) R h1 x).post hA h2 p
 cases a with
 | obj i =>
  refine Jf fun n1G=>?_;obtain⟨t,l,g,e,_⟩:=lgT e
  cases z:JU l with
  | false=>rw[z] at e; exact ff e
  | true =>
   rw[z] at e;obtain⟨a',k1,rfl⟩:=x;obtain⟨items,⟨g1,lt⟩,hv⟩:=JmE R g z k1;refine n1G ?_;clear n1G;refine PyProof.Rows.len_list g1 (by omega) ?_;have hv:Je c.ν ad s.heap (match t with | 0=>I l.length | t+1=>.int (.var (t+1) (.ofNat l.length))) (.int items.size (s.toks+1)):=by
    cases t with
    | zero=>obtain⟨_,hv⟩:=hv; exact⟨_,by injection hv with hv _; rw[hv]⟩
    | succ t=>obtain⟨_,hv⟩:=hv; exact⟨_,by injection hv with hv _; rw[hv]⟩
   cases t with
   | zero=>exact p ad st _ _ (I l.length) R (.quiet rfl rfl rfl rfl) hv e
   | succ t'=>exact p ad st _ _ (.int (.var (t'+1) (.ofNat l.length))) R (.quiet rfl rfl rfl rfl) hv e
 | _=>exact other e
theorem Jhh {i:Int}(h0:0≤i)(h1:i<2 ^ 40):i.natAbs.log2<1920:=by
 by_cases nz:i.natAbs=0
 · rw[nz]; decide
 · have:i.natAbs.log2<40:=(Nat.log2_lt nz).mpr (by omega);omega
theorem Jtg (R:Jk c ad fs st s.heap){a r:D}(e:JbP JDM 8 st.dom a=some r){v:Value}(x:Je c.ν ad s.heap a v):JF c n ad fs st s (call (.type "str") [v]) r:=by
 refine Jbr (P:=fun v r=>JF c n ad fs st s (call (.type "str") [v]) r) (JF.closed (fun v=>call (.type "str") [v])) (fun dm x r _ e v hx=>?_) 8 R.dom e x
 cases x with
 | int i =>
  obtain⟨t,rfl⟩:=hx;have gen:(match Jjh i with | true=>some (D.str (.ofInt i)) | false=>none)=some r→JF c n ad fs st s (call (.type "str") [.int (i.val c.ν) t]) r:=fun e=>by
   obtain⟨z,e⟩:=bmO e;obtain rfl:=Jp e;obtain⟨h0,h1⟩:=Jg9 (c:=c) z;intro A Q hA q;refine PySem.P.str_of_int (Jhh h0 (by omega)) ?_;exact Jaq (r:=.str (.ofInt _)) R ⟨⟨s.toks,rfl⟩,JoT _⟩ q
  cases i with
  | lit i =>
   cases i with
   | ofNat k =>
    obtain⟨z,e⟩:=bmO e;obtain rfl:=Jp e;have lt:=Jc3 z;intro A Q hA q;refine PySem.P.str_of_int (Jhh (i:=(k:Int)) (Int.natCast_nonneg k) (by omega)) ?_;exact Jaq (r:=.str (.lit (Str.ofString (toString k)))) R ⟨⟨s.toks,rfl⟩,JoT _⟩ q
   | negSucc _=>exact gen e
  | _=>exact gen e
 | _=>exact fo e
theorem JoU (R:Jk c ad fs st s.heap){a:D}{k:D→St→Bool}(e:Jox a st k=true){v:Value}(hx:Je c.ν ad s.heap a v){A:Around}(hA:Jz A n){Q:Value→Shared→Prop}(p:JaY c ad fs s k Q) :
  wpAny (model c.prog c.w) A (call (.type "tuple") [v]) Q (fun _ _=>False) s:=by
 refine Jf fun n1G=>?_
 cases a with
 | obj j =>
  obtain⟨l,g,e⟩:=lsT e;obtain⟨z,e⟩:=bmT e;have len:=Jy z;obtain⟨a,k1,rfl⟩:=hx;obtain⟨v2,g1,g4⟩:=R.list0 g k1;have g1:=g1.isList;have n1:=Jm g4;refine n1G ?_;clear n1G;refine call_tuple_list g1 (fun h' hk=>?_) (by rw[List.size_toArray,sizeLine_eq]; omega);have hk2:∀ b o,s.heap.get? b=some o→(h'.push { cls:=.type "tuple",data:=.seq v2.toArray }).get? b=some o:=fun b o e=>Heap.get?_push_of_some _ (hk b o e);exact p ad st _ _ (.tup l) (R.grow hk2) (.grow hk2 rfl rfl rfl) (Jcu (Jfv _ _) (Je.monoL (JaB.of_all hk2).tup (fun _ _ e=>e) g4)) e
 | _=>exact ff e
theorem Jpx (R:Jk c ad fs st s.heap){a:D}{k:D→St→Bool}(e:Jr0 a st k=true){v:Value}(hx:Je c.ν ad s.heap a v){A:Around}(hA:Jz A n){Q:Value→Shared→Prop}(p:JaY c ad fs s k Q) :
  wpAny (model c.prog c.w) A (call (.type "list") [v]) Q (fun _ _=>False) s:=by
 refine Jf fun n1G=>?_
 cases a with
 | tup l =>
  obtain⟨z,e⟩:=bmT e;have len:=Jy z;obtain⟨a,vs,rfl,⟨o,ho,hc,m,hd⟩,z1⟩:=hx.tup_inv;have n1:=Jm z1;refine n1G ?_;clear n1G;refine call_list_seq a (.inr rfl) ho hc hd (fun h' c' hk hD=>?_) (hsz:=by rw[List.size_toArray,sizeLine_eq]; omega);exact p _ _ _ _ _ (JfI R hk (Jl _) ⟨c',hD⟩ z1) (.alloc hk (Jl _) rfl rfl rfl) (JcB R) e
 | _=>exact ff e
theorem JBp (R:Jk c ad fs st s.heap){i:Nat}{args:List D}{k:D→St→Bool}(e:JkI i args st k=true){vals:List Value}(x:Je.goL c.ν ad s.heap args vals){A:Around}(hA:Jz A n){Q:Value→Shared→Prop}(p:JaY c ad fs s k Q) :
  wpAny (model c.prog c.w) A (call (biV i) vals) Q (fun _ _=>False) s:=by
 refine Jf fun n1G=>?_
 cases args with
 | nil=>exact ff e
 | cons a as =>
  cases as with
  | cons _ _=>exact ff e
  | nil =>
   obtain⟨v,r,rfl,hx,hr⟩:=x;have hr:r=[]:=hr;subst hr;refine n1G ?_;clear n1G
   match i with
   | 0=>exact JvA (n:=n) R e hx hA p
   | 1 =>
    refine Jf fun n2G=>?_;obtain⟨d,h1,h2⟩:=Ja5 e;exact n2G ((Jtg (n:=n) R h1 hx).post hA h2 p)
   | 2=>exact JoU (n:=n) R e hx hA p
   | 3=>exact Jpx (n:=n) R e hx hA p
   | _+4=>exact ff e
end
structure JrM (K:Frag)(JB:List Addr)(A0:Addr)(cl:Cls):Prop where
 ga:findIn K (.ref A0) "__getattribute__"=some (some (.builtin "object.__getattribute__"))
 gt:findIn K (.ref A0) "__getattr__"=some none
 sa:findIn K (.ref A0) "__setattr__"=some (some (.builtin "object.__setattr__"))
 dict:hasDictIn K A0=true
 over:plainOver K A0=true
 att:∀ x nm,JbV cl.att x=true→Js NT x=some nm→∃ attr,findIn K (.ref A0) nm=some attr∧noGet K attr=true∧takerIn K A0 nm=some none
 mth:∀ x f,lkp cl.mth (x+3)=some f→∃ nm fa,Js NT x=some nm∧Js JB f=some fa∧findIn K (.ref A0) nm=some (some (.ref fa))∧typeIn K (.ref fa)=some (.type "function")∧JbV cl.att x=false
structure JcI (c:Jx)(K:Frag)(JB:List Addr):Prop where
 kin:K.In c.h₀
 cls:∀ k cl,Js C k=some cl→∃ A0,Js c.clsA k=some A0∧JrM K JB A0 cl
 nt:∀ x y nm,Js NT x=some nm→Js NT y=some nm→x=y
mutual
theorem Je.handed {c:Jx}{ad:List Addr}{h:Heap}:∀ {d:D}{v:Value},Je c.ν ad h d v→handedIn v=true
 | .none,v,x=>by have x:v=_:=x; subst x; rfl
 | .bool _,v,x=>by have x:v=_:=x; subst x; rfl
 | .int _,v,x=>by obtain⟨t,rfl⟩:=x; rfl
 | .str _,v,x=>by obtain⟨⟨t,rfl⟩,_⟩:=x; rfl
 | .tup _,v,x=>by obtain⟨_,_,rfl,_⟩:=x; rfl
 | .obj _,v,x=>by obtain⟨_,_,rfl⟩:=x; rfl
 | .tab _ l,v,x=>Je.handedR (l:=l) x
 | .opq t,v,x=>by
  have x:v=_:=x
  cases v <;> first | rfl | exact absurd x.symm (c.opqOk t _)
theorem Je.handedR {c:Jx}{ad:List Addr}{h:Heap}:∀ {l:List (Nat×D)}{u:Nat}{v:Value},Je.goR c.ν ad h u l v→handedIn v=true
 | [],_,_,x=>x.elim
 | (_,d)::l,_,_,.inl ⟨_,x⟩=>Je.handed x
 | (_,d)::l,_,_,.inr ⟨_,x⟩=>Je.handedR x
end
section
variable {c:Jx}{n:Nat}{ad:List Addr}{fs:List JH}{st:St}{s:Shared}{K:Frag}{JB:List Addr}
theorem Jc0 {x:Str}{t:Tok}{y:Str}:(Value.str x t).isStr y=decide (x=y):=by
 unfold Value.isStr;exact rfl
theorem Jcl {ν:Vl}{h:Heap}:∀ {l:Loc}{es:List DictEntry},JaU ν ad h l es→es.any (·.refKey)=false
 | [],_,e=>by have e:_=[]:=e; subst e; rfl
 | (_,_)::_,_,⟨e,es',nm,t,h1,h2,h3,h4,h5⟩=>by
  subst h1;rw[List.any_cons,Jcl h5,Bool.or_false];unfold DictEntry.refKey;rw[h3]
theorem JdE {ν:Vl}{h:Heap}(nt:∀ x y nm,Js NT x=some nm→Js NT y=some nm→x=y){x:Nat}{nm:Str}(hx:Js NT x=some nm):∀ {l:Loc}{es:List DictEntry},JaU ν ad h l es →
  match lkp l x with
  | some d=>∃ e,es.find? (·.key.isStr nm)=some e∧Je ν ad h d e.val
  | none=>es.find? (·.key.isStr nm)=none
 | [],_,e=>by have e:_=[]:=e; subst e; rfl
 | (y,d)::l,_,⟨e,es',nm',t,h1,h2,h3,h4,h5⟩=>by
  subst h1;have ih:=JdE nt hx h5;rw[JJ,List.find?_cons];by_cases q:y=x
  · subst q;obtain rfl:=sjt hx h2;have:e.key.isStr nm=true:=by rw[h3,Jc0,decide_eq_true_iff]
    rw[if_pos rfl,this];exact⟨e,rfl,h4⟩
  · have:e.key.isStr nm=false:=by
      rw[h3,Jc0,decide_eq_false_iff_not];intro e; subst e;exact q (nt _ _ _ h2 hx)
    rw[if_neg q,this];exact ih
theorem JhY (R:Jk c ad fs st s.heap){i k d:Nat}(g:st.objs.get i=some (.inst k d)){a:Addr}(ha:ad[i]?=some a):∃ A0 dx l o es ep,Js c.clsA k=some A0∧ad[d]?=some dx∧st.objs.get d=some (.ns k l) ∧
  s.heap.get? dx=some o∧o.data=.dict es ep∧JaU c.ν ad s.heap l es.toList∧(∀ p∈l,∃ cl,Js C k=some cl∧JbV cl.att p.1=true)∧InstAt s.heap a (instObj A0 dx) A0 (some o):=by
 refine Jf fun n1G=>?_;obtain⟨a',h1,⟨A0,dx,h2,h3,h4⟩,_⟩:=R.objs _ _ g;obtain rfl:=sjt ha h1;obtain⟨l,gl⟩:=R.link _ _ _ g;obtain⟨dx',k1,⟨o,es,ep,k2,k3,k4,k5⟩,_⟩:=R.objs _ _ gl;obtain rfl:=sjt h3 k1;exact n1G ⟨A0,dx,l,o,es,ep,h2,h3,gl,k2,k3,k4,k5,⟨h4,rfl,rfl,k2⟩⟩
set_option tactic.hygienic true in
theorem Jp4 (S:JcI c K JB)(R:Jk c ad fs st s.heap){d r:D}{x:Nat}{nm:Str}(hx:Js NT x=some nm)(e:Jov C st d x=some r){v:Value}(hv:Je c.ν ad s.heap d v){expr:Bool}:JF c n ad fs st s (getAttr v nm expr) r:=by
 refine Jf fun n1G=>?_;unfold Jov at e;split at e
 · rename_i i;split at e
   · rename_i k d' g;obtain⟨a,ha,rfl⟩:=hv;obtain⟨A0,dx,l,o,es,ep,h1,h2,h3,h4,h5,h6,h7,I⟩:=JhY R g ha;split at e
     · rename_i cl hc;obtain⟨A1,z1,Z⟩:=S.cls _ _ hc;obtain rfl:=sjt h1 z1;split at e
       · rename_i hb;rw[h3] at e;simp only at e;split at e
         · rename_i v q;obtain rfl:=Jp e;have f:=JdE S.nt hx h6;rw[q] at f;obtain⟨en,f1,f2⟩:=f;obtain⟨attr,y1,y2,y3⟩:=Z.att _ _ hb hx;have look:lookIn nm o=some (some en.val):=by unfold lookIn; rw[h5]; dsimp only; rw[f1]
           refine n1G ?_;clear n1G;intro A Q hA q;refine get_value (S.kin.keeps R.base) I Z.ga (findObj_own Z.dict y1 y2 look) f2.handed ?_;exact Jaq R (Jkx 4 R.dom f2) q
         · exact fo e
       · exact fo e
     · exact fo e
   · exact fo e
 · exact fo e
end
open PySem PySem.W PyProof.Rows Builtin.ObjectAttr
theorem Jix (name:Str)(hsh:Int)(key v:Value){o:Obj}{es:Array DictEntry}{ep:Nat}(hd:o.data=.dict es ep):∃ ep',(Obj.putName name hsh key v o).data=.dict (PySem.W.putL name hsh key v es.toList).toArray ep':=by
 obtain⟨cl,d,dt,sl⟩:=o;subst hd;rw[Obj.putName_eq];unfold Obj.putNameByArray;have h1:=putL_find name hsh key v es.toList;obtain⟨l⟩:=es;simp only[List.findIdx?_toArray] at h1 ⊢
 cases h:List.findIdx? (fun x=>x.key.isStr name) l with
 | none=>rw[h] at h1; exact⟨ep+1,by rw[← h1]; simp⟩
 | some i=>rw[h] at h1; exact⟨ep,by rw[← h1]; simp⟩
section
variable {prog:Program}{w:World}{A:Around}{s:Shared}{K:Frag}{x C dx:Addr}{R:Result→Shared→Prop}
theorem Jmi {ox od:Obj}{name:Str}{tk:Tok}{v:Value}{es:Array DictEntry}{ep:Nat}(X:K.In s.heap)(I:InstAt s.heap x ox C (some od))(hdx:ox.dict=some dx)(hp:plainOver K C=true)(ht:takerIn K C name=some none)
  (hh:hasDictIn K C=true) (hod:od.data=.dict es ep) (hr:es.any (·.refKey)=false) (hz:es.size≤1000)
  (h:∀ h' o' ep',h'.get? dx=some o'→o'.data=.dict (PySem.W.putL name (PyData.keyHash w.params name) (.str name s.toks) v es.toList).toArray ep'→Heap.SameBut dx s.heap h'→R (.ok (.ret .none)) { s with heap:=h',toks:=s.toks+1 }) :
  codeAny (model prog w) A (.call (.builtin "object.__setattr__") ⟨[.ref x,.str name tk,v],[]⟩) R s:=by
 refine osa_open X I hp ht fun b=>?_;refine Jf fun n1G=>?_;obtain⟨cd,hc,hd'⟩:=any_some hh;obtain⟨ep',D'⟩:=Jix name (PyData.keyHash w.params name) (.str name s.toks) v hod;obtain⟨hx,hcl,hn,hI⟩:=I;rw[hdx] at hI;have D:s.heap.get? dx=some od:=hI;have hlen:(PySem.W.putL name (PyData.keyHash w.params name) (.str name s.toks) v es.toList).length≤es.size+1:=by
  rw[← Array.length_toList];generalize es.toList=l
  induction l with
  | nil=>exact Nat.le_refl _
  | cons e r ih =>
   simp only[PySem.W.putL];split
   · simp
   · simp only[List.length_cons]; omega
 have S':=Heap.get?_update_self (Obj.putName name (PyData.keyHash w.params name) (.str name s.toks) v) D (Obj.isFreed_of_dict D');obtain⟨oc,odi,oda,osl⟩:=ox;dsimp only at hcl hdx;subst hcl hdx;refine n1G ?_;clear n1G;refine wpAny_bind (wpAny_pure (wpAny_bind (wpAny_bind (wpAny_loadPart hx (wpAny_bind ((looks_clsIn X hc).here ?_))))));rw[hd'];refine wpAny_pure (a:=some dx) (wpAny_bind (wpAny_pure (wpAny_bind ?_)));unfold nsSet;refine wpAny_bind (wpAny_bind (wpAny_askSetting (wpAny_pure (wpAny_bind (wpAny_mkText (wpAny_bind (wpAny_loadPart D ?_)))))));rw[hod];dsimp only;rw[aRefKeyMayBeTheName_at,hr,Bool.and_false];refine wpAny_updatePart D ?_;refine wpAny_bind (wpAny_lookBehind S' (by rw[D']; exact pastItsLine_dict (by rw[List.size_toArray,sizeLine_eq]; omega)) ?_);exact wpAny_pure (h _ _ _ S' D' (Heap.SameBut.update ..))
end
section
variable {c:Jx}{n:Nat}{ad:List Addr}{fs:List JH}{st:St}{s:Shared}{K:Frag}{JB:List Addr}
theorem Jhd {ν:Vl}{h:Heap}(nt:∀ x y nm,Js NT x=some nm→Js NT y=some nm→x=y){x:Nat}{nm:Str}(hx:Js NT x=some nm){hsh:Int}{tk:Tok}{v:Value}{d:D}(hv:Je ν ad h d v):∀ {l:Loc}{es:List DictEntry},JaU ν ad h l es →
  JaU ν ad h (Mine.putL l x d) (PySem.W.putL nm hsh (.str nm tk) v es)
 | [],_,e=>by have e:_=[]:=e; subst e; exact⟨_,[],nm,tk,rfl,hx,rfl,hv,rfl⟩
 | (y,d')::l,_,⟨e,es',nm',t,h1,h2,h3,h4,h5⟩=>by
  subst h1;have ih:=Jhd nt hx (hsh:=hsh) (tk:=tk) hv h5;have e1:Mine.putL ((y,d')::l) x d=if y=x then (y,d)::l else (y,d')::Mine.putL l x d:=by
   show @Bool.rec (fun _=>Loc) ((y,d')::Mine.putL l x d) ((y,d)::l) (Nat.beq y x)=_;rw[Jaw];by_cases q:y=x
   · rw[if_pos q,decide_eq_true q]
   · rw[if_neg q,decide_eq_false q]
  rw[e1];simp only[PySem.W.putL];by_cases q:y=x
  · subst q;obtain rfl:=sjt hx h2;have:e.key.isStr nm=true:=by rw[h3,Jc0,decide_eq_true_iff]
    rw[if_pos rfl,if_pos this];exact⟨_,es',nm,t,rfl,hx,h3,hv,h5⟩
  · have:¬ e.key.isStr nm=true:=by
      rw[h3,Jc0,decide_eq_true_iff];intro e; subst e;exact q (nt _ _ _ h2 hx)
    rw[if_neg q,if_neg this];exact⟨e,_,nm',t,rfl,h2,h3,h4,ih⟩
theorem JdY {ν:Vl}{h:Heap}:∀ {l:Loc}{es:List DictEntry},JaU ν ad h l es→es.length=l.length
 | [],_,e=>by have e:_=[]:=e; subst e; rfl
 | (_,_)::_,_,⟨e,es',nm,t,h1,h2,h3,h4,h5⟩=>by subst h1; simp[JdY h5]
theorem JnA {l:Loc}{x:Nat}{d:D}:∀ p∈Mine.putL l x d,p.1=x∨∃ q∈l,q.1=p.1:=by
 induction l with
 | nil=>intro p hp; cases List.mem_singleton.mp hp; exact .inl rfl
 | cons q l ih =>
  obtain⟨y,d'⟩:=q;intro p hp;have e1:Mine.putL ((y,d')::l) x d=@Bool.rec (fun _=>Loc) ((y,d')::Mine.putL l x d) ((y,d)::l) (Nat.beq y x):=rfl;rw[e1] at hp
  cases h:Nat.beq y x with
  | true =>
   rw[h] at hp;rcases List.mem_cons.mp hp with rfl | hp
   · exact .inr ⟨_,.head _,rfl⟩
   · exact .inr ⟨p,.tail _ hp,rfl⟩
  | false =>
   rw[h] at hp;rcases List.mem_cons.mp hp with rfl | hp
   · exact .inr ⟨_,.head _,rfl⟩
   · rcases ih p hp with e | ⟨q,hq,e⟩
     · exact .inl e
     · exact .inr ⟨q,.tail _ hq,e⟩
theorem Jkv (S:JcI c K JB)(R:Jk c ad fs st s.heap){i k dd c':Nat}{cl:Cls}{l:Loc}{x:Nat}{nm:Str}(hx:Js NT x=some nm)(g:st.objs.get i=some (.inst k dd))(hc:Js C k=some cl)(hb:JbV cl.att x=true)
  (gl:st.objs.get dd=some (.ns c' l)) (hs:JU l=true) {a:Addr} (ha:ad[i]?=some a) {d:D}{v:Value} (hv:Je c.ν ad s.heap d v) {A:Around}{Q:Unit→Shared→Prop}
  (q:∀ s',Jk c ad fs (st.set dd (.ns c' (Mine.putL l x d))) s'.heap→JN ad fs s ad s'→Q () s'):wpAny (model c.prog c.w) A (setAttr (.ref a) nm v) Q (fun _ _=>False) s:=by
 refine Jf fun n1G=>?_;obtain⟨A0,dx,l',o,es,ep,h1,h2,h3,h4,h5,h6,h7,I⟩:=JhY R g ha;rw[gl] at h3; cases h3;obtain⟨A1,z1,Z⟩:=S.cls _ _ hc;obtain rfl:=sjt h1 z1;obtain⟨attr,y1,y2,y3⟩:=Z.att _ _ hb hx;have len:=Jy hs;have n1:=JdY h6;refine n1G ?_;clear n1G;refine set_plain (S.kin.keeps R.base) I Z.sa ?_;refine Jmi (s:={ s with toks:=s.toks+1 }) (dx:=dx) (es:=es) (ep:=ep) (S.kin.keeps R.base) I rfl Z.over y3 Z.dict h5 (by rw[← Array.any_toList]; exact Jcl h6) (by rw[← Array.length_toList,n1]; exact len) fun h' o' ep' e1 e2 sb=>?_;have md:dx∈ad:=List.mem_iff_getElem?.mpr ⟨_,h2⟩;refine q _ (R.upd gl h2 sb rfl ?_ (fun k l e=>by cases e; exact⟨_,rfl⟩) (fun _ _ e=>by cases e)) (.upd R md sb rfl rfl rfl);have kp:=(JN.upd (s':={ s with heap:=h' }) R md sb rfl rfl rfl).kept;refine⟨o',_,ep',e1,e2,?_,fun p hp=>?_⟩
 · exact (Jhd S.nt hx hv h6).mono kp.tup (fun _ _ e=>e)
 · refine Jf fun n2G=>?_;rcases JnA p hp with e | ⟨p',hp',e⟩
   · exact n2G ⟨cl,hc,by rw[e]; exact hb⟩
   · refine n2G ?_;clear n2G;rw[← e]; exact h7 p' hp'
end
structure JY (env:Env)(f:JH):Prop where
 sc:env.scope=f.sc
 L:env.locals=f.L
 cl:env.cells=f.cl
 gl:env.globals=mainGlobals
 bl:env.builtins=builtinsNs
 kind:f.sc.kind=.function
noncomputable abbrev FT':=List (List Nat×List QS)
def HE (c:Jx)(F:FT')(n:Nat)(sc:Scope)(q:QE)(e:Expr):Prop :=
 ∀ ⦃env:Env⦄ ⦃f:JH⦄ ⦃fs:List JH⦄ ⦃A:Around⦄ ⦃ad:List Addr⦄ ⦃st:St⦄ ⦃s:Shared⦄ ⦃k:D→St→Bool⦄ ⦃Q:Value→Shared→Prop⦄,JY env f→f.sc=sc→Jz A n→Jk c ad (f::fs) st s.heap →
  (ev F C n).E q st k=true→JaY c ad (f::fs) s k Q→wpAny (model c.prog c.w) A (eval e env) Q (fun _ _=>False) s
noncomputable def Jlc (c:Jx)(ad:List Addr)(fs:List JH)(s:Shared)(k:Bool→St→Bool)(Q:Bool→Shared→Prop):Prop :=
 ∀ ad' st' s' b,Jk c ad' fs st' s'.heap→JN ad fs s ad' s'→k b st'=true→Q b s'
def HT (c:Jx)(F:FT')(n:Nat)(sc:Scope)(q:QE)(e:Expr):Prop :=
 ∀ ⦃env:Env⦄ ⦃f:JH⦄ ⦃fs:List JH⦄ ⦃A:Around⦄ ⦃ad:List Addr⦄ ⦃st:St⦄ ⦃s:Shared⦄ ⦃k:Bool→St→Bool⦄ ⦃Q:Bool→Shared→Prop⦄,JY env f→f.sc=sc→Jz A n→Jk c ad (f::fs) st s.heap →
  (ev F C n).T q st k=true→Jlc c ad (f::fs) s k Q→wpAny (model c.prog c.w) A (isTrue e env (eval e env)) Q (fun _ _=>False) s
theorem Jlc.step {c:Jx}{ad ad1:List Addr}{fs:List JH}{s s1:Shared}{st1:St}{k:Bool→St→Bool}{Q:Bool→Shared→Prop}(p:Jlc c ad fs s k Q)(x:JN ad fs s ad1 s1)(R:Jk c ad1 fs st1 s1.heap):Jlc c ad1 fs s1 k Q :=
 fun ad' st' s' b R' y e=>p ad' st' s' b R' (x.trans R y) e
section
variable {c:Jx}{F:FT'}{n:Nat}{sc:Scope}
theorem Jbo {α:Type}:∀ (l:List (Str×α)) (x:Str),JO l x=l.lookup x
 | [],_=>rfl
 | (k,v)::r,x=>by
  have ih:=Jbo r x;rw[List.lookup_cons];have e:JO ((k,v)::r) x=(match sEq k x with | true=>some v | false=>JO r x):=rfl;rw[e];by_cases q:k=x
  · subst q; rw[JbB.mpr rfl,beq_self_eq_true]
  · have:sEq k x=false:=by cases z:sEq k x with | false=>rfl | true=>exact absurd (JbB.mp z) q
    rw[this,beq_eq_false_iff_ne.mpr (fun e=>q e.symm),ih]
theorem JfA:∀ {l:List Str}{x:Str}{n i:Nat},JbO l x n=some i→∃ j,i=n+j∧Js l j=some x
 | [],_,_,_,e=>by cases e
 | k::r,x,n,i,e=>by
  have e:(match sEq k x with | true=>some n | false=>JbO r x (Nat.succ n))=some i:=e;split at e
  · rename_i z; obtain rfl:=Jp e; exact⟨0,rfl,by rw[Jbl z]; rfl⟩
  · obtain⟨j,h1,h2⟩:=JfA e;refine⟨j+1,by omega,?_⟩;rw[JG] at h2 ⊢; simpa using h2
theorem Jos {s:Str}(h:Jw (fun c=>Nat.blt c 1114112) s.cps.toList=true):PyData.strOk s=true:=by
 unfold PyData.strOk;rw[← Array.all_toList,List.all_eq_true];intro x hx;exact decide_eq_true (Nat.blt_eq.mp (Jn h x hx))
theorem Jm2 {co:Const}{k0:Nat}{pos:Pos}{d:D}(h:JdO co=some d):HE c F (n+1) sc (.const d) (.Constant co k0 pos):=by
 intro env f fs A ad st s k Q hE hs hA R e p;refine Jf fun n1G=>?_;have e:k d st=true:=e;unfold JdO at h;split at h
 · obtain rfl:=Jp h;exact n1G (wpAny_Constant_none (p ad st s _ .none R (.refl _ _ _) rfl e))
 · obtain rfl:=Jp h;exact n1G (wpAny_Constant_bool (p ad st s _ (.bool _) R (.refl _ _ _) rfl e))
 · obtain rfl:=Jp h;exact n1G (wpAny_Constant_int (p ad st _ _ (.int (.lit _)) R (.quiet rfl rfl rfl rfl) ⟨_,rfl⟩ e))
 · split at h
   · rename_i z;obtain rfl:=Jp h;exact n1G (wpAny_Constant_str (p ad st _ _ (.str (.lit _)) R (.quiet rfl rfl rfl rfl) ⟨⟨_,rfl⟩,Jos z⟩ e))
   · exact fo h
 · exact fo h
set_option tactic.hygienic true in
theorem Jud {x:Str}{i:Nat}{pos:Pos}(hi:Js NT i=some x)(hk:sc.names.lookup x=some .local∨sc.names.lookup x=some .cell∨sc.names.lookup x=some .free)(hd:(x==("__debug__":Str))=false)(hc:(x==("__classdict__":Str))=false):HE c F (n+1) sc (.loc i) (.Name x pos):=by
 intro env f fs A ad st s k Q hE hs hA R e p;refine Jf fun n1G=>?_;subst hs;have e:Jti i st k=true:=e;unfold Jti at e;split at e
 · rename_i d q;obtain⟨l,r,er,⟨m,hm,hl⟩,_⟩:=R.frames;refine n1G ?_;clear n1G
   (injection er with zz; subst zz)
   obtain⟨l1,l2⟩:=hl i x d hi q;have key:env.kindOf x=f.sc.names.lookup x:=by unfold Env.kindOf; rw[hE.sc]
   have hkind:env.scope.kind=.function:=by rw[hE.sc]; exact hE.kind
   have fin:∀ {v},Je c.ν ad s.heap d v→Q v s:=fun {v} h=>p ad st s v _ R (.refl _ _ _) (Jkx 4 R.dom h) e;refine wpAny_Name ?_ hd;refine Jf fun n2G=>?_;rcases hk with hk | hk | hk
   · obtain⟨v,h1,h2⟩:=l1 hk;exact n2G (wpAny_loadName_local hkind (key.trans hk) (hE.L ▸ hm) h1 (fin h2))
   · obtain⟨cc,v,h1,h2,h3⟩:=l2 (.inl hk);exact n2G (wpAny_loadName_cell hkind (key.trans hk) (hE.cl ▸ h1) h2 (fin h3))
   · obtain⟨cc,v,h1,h2,h3⟩:=l2 (.inr hk);exact n2G (wpAny_loadName_free hkind (key.trans hk) (hE.cl ▸ h1) h2 (fin h3) hc)
 · exact ff e
theorem Jz.down {A:Around}{n:Nat}(x:Jz A (n+1)):Jz A n:=x.le (Nat.le_succ n)
variable {qa qb qt:QE}{ea eb et:Expr}{pos:Pos}
theorem Js9 (ha:HE c F n sc qa ea)(hb:HE c F n sc qb eb)(op:Operator):HE c F (n+1) sc (.bin op qa qb) (.BinOp ea op eb pos):=by
 intro env f fs A ad st s k Q hE hs hA R e p;have e:Jyc (ev F C n) op qa qb st k=true:=e;refine wpAny_BinOp (ha hE hs hA.down R e fun ad1 st1 s1 v1 d1 R1 x1 i1 e1=>?_);refine hb hE hs hA.down R1 e1 fun ad2 st2 s2 v2 d2 R2 x2 i2 e2=>?_;obtain⟨r,h1,h2⟩:=Ja5 e2;exact (JvB (n:=n+1) op R2 h1 (i1.mono x2.kept.tup x2.pre) i2).post hA h2 (p.step (x1.trans R1 x2) R2)
theorem JsP (ha:HE c F n sc qa ea):HE c F (n+1) sc (.neg qa) (.UnaryOp .USub ea pos):=by
 intro env f fs A ad st s k Q hE hs hA R e p;have e:JyK (ev F C n) qa st k=true:=e;refine wpAny_UnaryOp (ha hE hs hA.down R e fun ad1 st1 s1 v1 d1 R1 x1 i1 e1=>?_);obtain⟨r,h1,h2⟩:=Ja5 e1;exact (JnF (n:=n+1) R1 h1 i1).post hA h2 (p.step x1 R1)
theorem JuL (ha:HE c F n sc qa ea):HE c F (n+1) sc (.not qa) (.UnaryOp .Not ea pos):=by
 intro env f fs A ad st s k Q hE hs hA R e p;have e:JxK (ev F C n) qa st k=true:=e;refine wpAny_UnaryOp (ha hE hs hA.down R e fun ad1 st1 s1 v1 d1 R1 x1 i1 e1=>?_);refine Jf fun n1G=>?_;obtain⟨b,st2,h1,R2,g⟩:=Jde (n:=n+1) R1 e1 i1;refine n1G ?_;clear n1G;refine not_value (g A _ hA fun s' R' x'=>?_);exact (p.step x1 R2) ad1 st2 s' _ (.bool (Jaz b)) R' x' (by rw[Jbj]; rfl) h1
theorem JsL (ha:HE c F n sc qa ea)(hb:HE c F n sc qb eb)(op:CmpOp)(hm:behindInMarks op eb=false):HE c F (n+1) sc (.cmp op qa qb) (.Compare ea [op] [eb] pos):=by
 intro env f fs A ad st s k Q hE hs hA R e p;have e:Jun (ev F C n) op qa qb st k=true:=e;refine wpAny_Compare1 (ha hE hs hA.down R e fun ad1 st1 s1 v1 d1 R1 x1 i1 e1=>?_) hm;refine hb hE hs hA.down R1 e1 fun ad2 st2 s2 v2 d2 R2 x2 i2 e2=>?_;obtain⟨r,h1,h2⟩:=Ja5 e2;exact (JhD (n:=n+1) op R2 h1 (i1.mono x2.kept.tup x2.pre) i2).post hA h2 (p.step (x1.trans R1 x2) R2)
theorem JuB (ht:HT c F n sc qt et)(ha:HE c F n sc qa ea)(hb:HE c F n sc qb eb):HE c F (n+1) sc (.ite qt qa qb) (.IfExp et ea eb pos):=by
 intro env f fs A ad st s k Q hE hs hA R e p;have e:JwJ (ev F C n) qt qa qb st k=true:=e;refine wpAny_IfExp (ht hE hs hA.down R e fun ad1 st1 s1 b R1 x1 e1=>?_)
 cases b with
 | true=>exact ha hE hs hA.down R1 e1 (p.step x1 R1)
 | false=>exact hb hE hs hA.down R1 e1 (p.step x1 R1)
end
section
variable {c:Jx}{F:FT'}{n:Nat}{sc:Scope}{qa qb qt:QE}{ea eb et:Expr}{pos:Pos}
theorem Jo4 {r:List Expr}(ha:HE c F n sc qa ea)(hb:HE c F n sc qb (.BoolOp op (eb::r) pos)):HE c F (n+1) sc (.bop op qa qb) (.BoolOp op (ea::eb::r) pos):=by
 intro env f fs A ad st s k Q hE hs hA R e p;have e:Jzz (ev F C n) op qa qb st k=true:=e;rw[arm_eval_BoolOp];show wpAny _ _ (do
  let v ← eval ea env
  standAt pos
  let t ← holding [v] (truthy v)
  match op,t with
  | .And,false | .Or,true=>pure v
  | _,_=>boolOp pos op (evalEach (eb::r) env)) _ _ _
 refine wpAny_bind (ha hE hs hA.down R e fun ad1 st1 s1 v1 d1 R1 x1 i1 e1=>?_);refine Jf fun n1G=>?_;obtain⟨b,st2,h1,R2,g⟩:=Jde (n:=n+1) R1 e1 i1;refine n1G ?_;clear n1G;refine wpAny_bind (wpAny_standAt (wpAny_bind (wpAny_holding (g A _ hA fun s' R' x'=>?_))));have p2:=p.step x1 R2;have stay:k d1 st2=true→wpAny (model c.prog c.w) A (pure v1) Q (fun _ _=>False) s':=fun h=>wpAny_pure (p2 ad1 st2 s' v1 d1 R' x' (i1.mono x'.kept.tup x'.pre) h);have go:(ev F C n).E qb st2 k=true→wpAny (model c.prog c.w) A (boolOp pos op (evalEach (eb::r) env)) Q (fun _ _=>False) s':=fun h=>hb hE hs hA.down R' h (p2.step x' R')
 cases op <;> cases b <;> first | exact stay h1 | exact go h1
theorem Jum (ha:HT c F n sc qa ea):HT c F (n+1) sc (.not qa) (.UnaryOp .Not ea pos):=by
 intro env f fs A ad st s k Q hE hs hA R e p;have e:JFI (ev F C n) qa st k=true:=e;refine wpAny_isTrue_Not (ha hE hs hA.down R e fun ad1 st1 s1 b R1 x1 e1=>?_);rw[← Jbj];exact p _ _ _ _ R1 x1 e1
theorem JuN (ht:HT c F n sc qt et)(ha:HT c F n sc qa ea)(hb:HT c F n sc qb eb):HT c F (n+1) sc (.ite qt qa qb) (.IfExp et ea eb pos):=by
 intro env f fs A ad st s k Q hE hs hA R e p;have e:JFx (ev F C n) qt qa qb st k=true:=e;show wpAny _ _ (do if ← isTrue et env (eval et env) then isTrue ea env (eval ea env) else isTrue eb env (eval eb env)) _ _ _
 refine wpAny_bind (ht hE hs hA.down R e fun ad1 st1 s1 b R1 x1 e1=>?_)
 cases b with
 | true=>exact ha hE hs hA.down R1 e1 (p.step x1 R1)
 | false=>exact hb hE hs hA.down R1 e1 (p.step x1 R1)
theorem JoS {r:List Expr}(ha:HT c F n sc qa ea)(hb:HT c F n sc qb (.BoolOp op (eb::r) pos)):HT c F (n+1) sc (.bop op qa qb) (.BoolOp op (ea::eb::r) pos):=by
 intro env f fs A ad st s k Q hE hs hA R e p;have e:JxM (ev F C n) op qa qb st k=true:=e;refine wpAny_isTrue_BoolOp ?_
 cases op with
 | And =>
  refine wpAny_allTrue_And_cons (ha hE hs hA.down R e fun ad1 st1 s1 b R1 x1 e1=>?_)
  cases b with
  | true=>exact hb hE hs hA.down R1 e1 (p.step x1 R1)
  | false=>exact p _ _ _ _ R1 x1 e1
 | Or =>
  refine wpAny_allTrue_Or_cons (ha hE hs hA.down R e fun ad1 st1 s1 b R1 x1 e1=>?_)
  cases b with
  | true=>exact p _ _ _ _ R1 x1 e1
  | false=>exact hb hE hs hA.down R1 e1 (p.step x1 R1)
theorem JuX {q:QE}(h:HT c F n sc q ea):HT c F n sc q (.BoolOp op [ea] pos):=by
 intro env f fs A ad st s k Q hE hs hA R e p;refine wpAny_isTrue_BoolOp ?_
 cases op with
 | And =>
  refine wpAny_allTrue_And_cons (h hE hs hA R e fun ad1 st1 s1 b R1 x1 e1=>?_)
  cases b with
  | true=>exact wpAny_allTrue_And_nil (p _ _ _ _ R1 x1 e1)
  | false=>exact p _ _ _ _ R1 x1 e1
 | Or =>
  refine wpAny_allTrue_Or_cons (h hE hs hA R e fun ad1 st1 s1 b R1 x1 e1=>?_)
  cases b with
  | true=>exact p _ _ _ _ R1 x1 e1
  | false=>exact wpAny_allTrue_Or_nil (p _ _ _ _ R1 x1 e1)
theorem Jup {q:QE}(h:HE c F n sc q ea):HE c F n sc q (.BoolOp op [ea] pos):=h
theorem JvS {q:QE}(h:HE c F n sc q ea)(hq:∀ st k,(ev F C (n+1)).T q st k=Jv0 (ev F C n) q st k)(he:∀ env whole,isTrue ea env whole=(do let v ← whole; standAt ea.pos; holding [v] (truthy v))):HT c F (n+1) sc q ea:=by
 intro env f fs A ad st s k Q hE hs hA R e p;rw[hq] at e;have e:(ev F C n).E q st (fun d st=>JdG d st k)=true:=e;refine wpAny_isTrue_value (h hE hs hA.down R e fun ad1 st1 s1 v1 d1 R1 x1 i1 e1=>?_) (he _ _);refine Jf fun n1G=>?_;obtain⟨b,st2,h1,R2,g⟩:=Jde (n:=n+1) R1 e1 i1;exact n1G (g A _ hA fun s' R' x'=>(p.step x1 R2) _ _ _ _ R' x' h1)
theorem Juf (ha:HE c F n sc qa ea)(hb:HE c F n sc qb eb)(op:CmpOp)(hm:behindInMarks op eb=false):HT c F (n+2) sc (.cmp op qa qb) (.Compare ea [op] [eb] pos):=by
 intro env f fs A ad st s k Q hE hs hA R e p;have e:Jun (ev F C n) op qa qb st (fun d st=>JdG d st k)=true:=e;have hA2:Jz A n:=hA.le (by exact Nat.le_add_right _ _);refine wpAny_isTrue_Compare1 (ha hE hs hA2 R e fun ad1 st1 s1 v1 d1 R1 x1 i1 e1=>?_) hm;refine hb hE hs hA2 R1 e1 fun ad2 st2 s2 v2 d2 R2 x2 i2 e2=>?_;obtain⟨r,h1,h2⟩:=Ja5 e2;have p2:=p.step (x1.trans R1 x2) R2;refine JhD (n:=n+2) op R2 h1 (i1.mono x2.kept.tup x2.pre) i2 A _ hA fun s3 v3 R3 x3 i3=>?_;obtain⟨b,st4,h4,R4,g⟩:=Jde (n:=n+2) R3 h2 i3;exact g A _ hA fun s' R' x'=>(p2.step x3 R4) _ _ _ _ R' x' h4
end
def JlK (c:Jx)(ad:List Addr)(fs:List JH)(s:Shared)(k:List D→St→Bool)(Q:List Value→Shared→Prop):Prop :=
 ∀ ad' st' s' vs ds,Jk c ad' fs st' s'.heap→JN ad fs s ad' s'→Je.goL c.ν ad' s'.heap ds vs→k ds st'=true→Q vs s'
def HEs (c:Jx)(F:FT')(n:Nat)(sc:Scope)(qs:List QE)(es:List Expr):Prop :=
 ∀ ⦃env:Env⦄ ⦃f:JH⦄ ⦃fs:List JH⦄ ⦃A:Around⦄ ⦃ad:List Addr⦄ ⦃st:St⦄ ⦃s:Shared⦄ ⦃k:List D→St→Bool⦄ ⦃Q:List Value→Shared→Prop⦄ ⦃pos:Pos⦄,JY env f→f.sc=sc→Jz A n→Jk c ad (f::fs) st s.heap →
  (ev F C n).Es qs st k=true→JlK c ad (f::fs) s k Q→wpAny (model c.prog c.w) A (spliced (backTo pos (starEach es env))) Q (fun _ _=>False) s
theorem JlK.step {c:Jx}{ad ad1:List Addr}{fs:List JH}{s s1:Shared}{st1:St}{k:List D→St→Bool}{Q:List Value→Shared→Prop}(p:JlK c ad fs s k Q)(x:JN ad fs s ad1 s1)(R:Jk c ad1 fs st1 s1.heap):JlK c ad1 fs s1 k Q :=
 fun ad' st' s' b d R' y i e=>p ad' st' s' b d R' (x.trans R y) i e
theorem JaO {e:Expr}(h:JA e=true)(r:List Expr)(env:Env):starEach (e::r) env=(false,eval e env)::starEach r env:=by
 cases e <;> first | rfl | cases h
section
variable {c:Jx}{F:FT'}{n:Nat}{sc:Scope}{qa qb qt:QE}{ea eb et:Expr}{pos:Pos}
theorem Jqf:HEs c F (n+1) sc [] []:=by
 intro env f fs A ad st s k Q pos hE hs hA R e p;exact wpAny_items_nil (p ad st s [] [] R (.refl _ _ _) rfl e)
theorem JnU {q:QE}{qs:List QE}{x:Expr}{xs:List Expr}(hx:JA x=true)(h:HE c F n sc q x)(hr:HEs c F n sc qs xs):HEs c F (n+1) sc (q::qs) (x::xs):=by
 intro env f fs A ad st s k Q pos hE hs hA R e p;have e:(ev F C n).E q st (fun d st=>(ev F C n).Es qs st fun l st=>k (d::l) st)=true:=e;refine wpAny_items_cons (h hE hs hA.down R e fun ad1 st1 s1 v1 d1 R1 x1 i1 e1=>?_) (JaO hx xs env);refine hr hE hs hA.down R1 e1 fun ad2 st2 s2 vs ds R2 x2 i2 e2=>?_;exact p _ _ _ _ (d1::ds) R2 (x1.trans R1 x2) ⟨v1,vs,rfl,i1.mono x2.kept.tup x2.pre,i2⟩ e2
theorem Jt7 {qs:List QE}{xs:List Expr}{k0:Nat}(h:HEs c F n sc qs xs):HE c F (n+1) sc (.tup qs) (.Tuple xs k0 pos):=by
 intro env f fs A ad st s k Q hE hs hA R e p;have e:(ev F C n).Es qs st (fun ds st=>match JU ds with | true=>k (.tup ds) st | false=>false)=true:=e;refine wpAny_Tuple (h hE hs hA.down R e fun ad1 st1 s1 vs ds R1 x1 i1 e1=>?_);refine Jf fun n1G=>?_;split at e1
 · rename_i z;have len:=Jy z;have n1:=Jm i1;refine n1G ?_;clear n1G;refine⟨by rw[sizeLine_eq]; omega,?_⟩;exact (p.step x1 R1) _ _ _ _ (.tup ds) (R1.push _) (.grow (fun _ _ e=>Heap.get?_push_of_some _ e) rfl rfl rfl) (Jcu (Jfv _ _) (Je.monoL (Jam _ _) (fun _ _ e=>e) i1)) e1
 · exact ff e1
theorem Jrl {qs:List QE}{xs:List Expr}(h:HEs c F n sc qs xs):HE c F (n+1) sc (.list qs) (.List xs pos):=by
 intro env f fs A ad st s k Q hE hs hA R e p;have e:(ev F C n).Es qs st (fun ds st=>match JU ds with | true=>k (.obj st.n) (st.alloc (.list 0 ds)) | false=>false)=true:=e;refine wpAny_List (h hE hs hA.down R e fun ad1 st1 s1 vs ds R1 x1 i1 e1=>?_);refine Jf fun n1G=>?_;split at e1
 · rename_i z;have len:=Jy z;have n1:=Jm i1;refine n1G ?_;clear n1G;refine⟨by rw[sizeLine_eq]; omega,?_⟩;have k1:∀ b o,s1.heap.get? b=some o→(s1.heap.push { cls:=.type "list",data:=.seq vs.toArray }).get? b=some o:=fun _ _ e=>Heap.get?_push_of_some _ e;exact (p.step x1 R1) _ _ _ _ _ (JfI R1 k1 (Jl _) ⟨_,Heap.get?_push_size _ rfl⟩ i1) (.alloc k1 (Jl _) rfl rfl rfl) (JcB R1) e1
 · exact ff e1
theorem Jb0 {sl:Expr}(h:Jft sl=true)(o i:Value):subscripted sl false o i=operate [o,i] (getItem o i):=by
 cases sl <;> first | rfl | exact ff h
theorem Js7 (ha:HE c F n sc qa ea)(hb:HE c F n sc qb eb)(hn:Jft eb=true):HE c F (n+1) sc (.sub qa qb) (.Subscript ea eb pos):=by
 intro env f fs A ad st s k Q hE hs hA R e p;have e:JyS (ev F C n) qa qb st k=true:=e;rw[arm_eval_Subscript];refine wpAny_bind (ha hE hs hA.down R e fun ad1 st1 s1 v1 d1 R1 x1 i1 e1=>?_);refine wpAny_bind (wpAny_holding (hb hE hs hA.down R1 e1 fun ad2 st2 s2 v2 d2 R2 x2 i2 e2=>?_));refine Jf fun n1G=>?_;obtain⟨r,h1,h2⟩:=Ja5 e2;have sub:Jfa c (n+1) ad2 (f::fs) st2 s2 v1 v2 r:=by
  refine Jf fun n2G=>?_;unfold Jd8 at h1;split at h1
  · rename_i y q;exact n2G (Jcc (P:=fun v u r=>Jfa c (n+1) ad2 (f::fs) st2 s2 v u r) (fun v=>Jfa.closed v) (Joe R2) R2.dom h1 (i1.mono x2.kept.tup x2.pre) (Jfs 4 R2.dom q i2))
  · exact fo h1
 obtain⟨⟨T,id,hT,hl⟩,g⟩:=sub;refine n1G ?_;clear n1G;refine wpAny_bind (wpAny_standAt ?_);have:=tail_any (value:=ea) (slice:=eb) (ops:=[v1,v2]) (Q:=Q) hT hl (g.post hA h2 (p.step (x1.trans R1 x2) R2)) (Jb0 hn v1 v2);exact this
theorem Jlk {M:Model}{A:Around}{E:Value→Shared→Prop}{s:Shared}{o:Expr}{attr:Str}{env:Env}{whole:Sem Value}{Q:Value→Shared→Prop}(h:Jdf o=true)(w:wpAny M A whole Q E s):wpAny M A (attributeBase o attr env whole) Q E s:=by
 have id_go:∀ {id:Str}{p0 p:Pos},(id != "super")=true→wpAny M A (attributeBase (.Call (.Name id p0) [] [] p) attr env whole) Q E s:=fun {id p0 p} h=>by
  unfold attributeBase;dsimp only;rw[h];exact w
 cases o with
 | Call f as ks p =>
  cases f with
  | Name id p0 =>
   cases as with
   | nil =>
    cases ks with
    | nil=>exact id_go h
    | cons _ _=>exact w
   | cons _ _=>exact w
  | _=>exact w
 | _=>exact w
theorem JqZ {K:Frag}{JB:List Addr}(S:JcI c K JB)(ha:HE c F n sc qa ea)(hs:Jdf ea=true){x:Str}{i:Nat}(hi:Js NT i=some x):HE c F (n+1) sc (.attr qa i) (.Attribute ea x pos):=by
 intro env f fs A ad st s k Q hE hsc hA R e p;have e:Jr8 C (ev F C n) qa i st k=true:=e;rw[arm_eval_Attribute];refine wpAny_bind (Jlk hs (ha hE hsc hA.down R e fun ad1 st1 s1 v1 d1 R1 x1 i1 e1=>?_));obtain⟨r,h1,h2⟩:=Ja5 e1;refine wpAny_bind (wpAny_standAt (wpAny_bind (wpAny_holding ?_)));have p2:=p.step x1 R1;exact Jp4 (n:=n+1) S R1 hi h1 i1 A _ hA fun s' v R' x' i'=>wpAny_bind (wpAny_letTemporaryGo (wpAny_pure (p2 _ _ _ _ _ R' x' i' h2)))
end
def HP (c:Jx)(F:FT')(n:Nat)(sc:Scope)(q:QE)(o:Option Expr):Prop :=
 ∀ ⦃env:Env⦄ ⦃f:JH⦄ ⦃fs:List JH⦄ ⦃A:Around⦄ ⦃ad:List Addr⦄ ⦃st:St⦄ ⦃s:Shared⦄ ⦃k:D→St→Bool⦄ ⦃Q:Value→Shared→Prop⦄,JY env f→f.sc=sc→Jz A n→Jk c ad (f::fs) st s.heap →
  (ev F C n).E q st k=true→JaY c ad (f::fs) s k Q→wpAny (model c.prog c.w) A (evalPart o env) Q (fun _ _=>False) s
theorem Jj7 {s s':Shared}{v:Value}{T:String}(x:s.TypeIs v T)(k:∀ b o,s.heap.get? b=some o→s'.heap.get? b=some o):s'.TypeIs v T:=by
 cases v with
 | ref a=>obtain⟨o,h1,h2⟩:=x; exact⟨o,k _ _ h1,h2⟩
 | _=>exact x
section
variable {c:Jx}{F:FT'}{n:Nat}{sc:Scope}{qa qb ql qh:QE}{ea eb:Expr}{pos:Pos}
theorem JpZ (h:HE c F n sc qa ea):HP c F n sc qa (some ea):=fun _ _ _ _ _ _ _ _ _ hE hs hA R e p=>h hE hs hA R e p
theorem JpA:HP c F n sc (.const .none) none:=by
 intro env f fs A ad st s k Q hE hs hA R e p;refine Jf fun n1G=>?_
 cases n with
 | zero=>exact ff e
 | succ n =>
  exact n1G (wpAny_pure (p ad st s _ .none R (.refl _ _ _) rfl e))
theorem Jns {lo hi:Option Expr}{p0:Pos}(ha:HE c F n sc qa ea)(hl:HP c F n sc ql lo)(hh:HP c F n sc qh hi):HE c F (n+1) sc (.slice qa ql qh) (.Subscript ea (.Slice lo hi none p0) pos):=by
 intro env f fs A ad st s k Q hE hs hA R e p;have e:Jn8 (ev F C n) qa ql qh st k=true:=e;rw[arm_eval_Subscript];refine wpAny_bind (ha hE hs hA.down R e fun ad1 st1 s1 v1 d1 R1 x1 i1 e1=>?_);refine wpAny_bind (wpAny_holding (wpAny_Slice (hl hE hs hA.down R1 e1 fun ad2 st2 s2 v2 d2 R2 x2 i2 e2=>?_)));refine hh hE hs hA.down R2 e2 fun ad3 st3 s3 v3 d3 R3 x3 i3 e3=>?_;refine Jf fun n1G=>?_;obtain⟨r,h1,h2⟩:=Ja5 e3;obtain⟨hT,g⟩:=Jpg (n:=n+1) R3 h1 (i2.mono x3.kept.tup x3.pre) (i1.mono (x2.kept.trans x3.kept).tup (fun i a e=>x3.pre i a (x2.pre i a e))) i3;refine n1G ?_;clear n1G;rw[evalPart_none];refine wpAny_pure ?_;have p3:=p.step ((x1.trans R1 x2).trans R2 x3) R3;have R4:Jk c ad3 (f::fs) st3 (JbD s3 v2 v3).heap:=R3.push _;have p4:=p3.step (s1:=JbD s3 v2 v3) (.grow (fun _ _ e=>Heap.get?_push_of_some _ e) rfl rfl rfl) R4;refine wpAny_bind (wpAny_standAt ?_);exact tail_any (s:=JbD s3 v2 v3) (value:=ea) (slice:=.Slice lo hi none p0) (ops:=[.ref s3.heap.objs.size,v1]) (T:="tuple") (Jj7 hT fun _ _ e=>Heap.get?_push_of_some _ e) slot_tuple_getitem.lookup (g.post hA h2 p4) rfl
end
theorem Je6 {kd:Str→Option NameKind}{x:Str}:∀ {bs:List (Str×Value)}{m:Str→Option Value},x ∉ bs.map (·.1)→bindL kd bs m x=m x
 | [],_,_=>rfl
 | (n,v)::r,m,h=>by
  simp only[List.map_cons,List.mem_cons,not_or] at h;simp only[bindL];rw[Je6 h.2];split
  · exact if_neg h.1
  · rfl
theorem JeJ {kd:Str→Option NameKind}{x:Str}{v:Value}(hk:kd x=some .local):∀ {bs:List (Str×Value)}{m:Str→Option Value},(bs.map (·.1)).Nodup→(x,v)∈bs→bindL kd bs m x=some v
 | (n,u)::r,m,nd,h=>by
  rw[List.map_cons,List.nodup_cons] at nd;simp only[bindL];rcases List.mem_cons.mp h with e | h
  · cases e
    rw[Je6 nd.1,if_pos hk]; exact if_pos rfl
  · exact JeJ hk nd.2 h
theorem Je3 {kd:Str→Option NameKind}{x:Str}:∀ {bs:List (Str×Value)}{m:Str→Option Value},x ∉ bs.map (·.1)→bindC kd bs m x=m x
 | [],_,_=>rfl
 | (n,v)::r,m,h=>by
  simp only[List.map_cons,List.mem_cons,not_or] at h;simp only[bindC];rw[Je3 h.2];split
  · rfl
  · exact if_neg h.1
theorem Jhf {kd:Str→Option NameKind}{x:Str}{v:Value}(hk:kd x≠some .local):∀ {bs:List (Str×Value)}{m:Str→Option Value},(bs.map (·.1)).Nodup→(x,v)∈bs→bindC kd bs m x=some v
 | (n,u)::r,m,nd,h=>by
  rw[List.map_cons,List.nodup_cons] at nd;simp only[bindC];rcases List.mem_cons.mp h with e | h
  · cases e
    rw[Je3 nd.1,if_neg hk]; exact if_pos rfl
  · exact Jhf hk nd.2 h
set_option tactic.hygienic true in
theorem JjN {ν:Vl}{ad:List Addr}{h:Heap}:∀ {xs:List Nat}{ds:List D}{loc:Loc}{vs:List Value},Jlq xs ds=some loc→Je.goL ν ad h ds vs→vs.length=xs.length∧∀ x d,lkp loc x=some d→∃ (j:Nat) (v:Value),xs[j]?=some x∧vs[j]?=some v∧Je ν ad h d v
 | [],[],loc,vs,e,z=>by
  obtain rfl:=Jp e;have z:vs=[]:=z;subst z;exact⟨rfl,fun x d q=>by cases q⟩
 | [],_::_,_,_,e,_=>by cases e
 | _::_,[],_,_,e,_=>by cases e
 | y::xs,d::ds,loc,vs,e,⟨v,r,e1,a,b⟩=>by
  subst e1;simp only[Jlq] at e;split at e
  · rename_i l q;obtain rfl:=Jp e;obtain⟨h1,h2⟩:=JjN q b;refine⟨by simp[h1],fun x d' q2=>?_⟩;rw[JJ] at q2;split at q2
    · rename_i z; obtain rfl:=Jp q2; subst z; exact⟨0,v,rfl,rfl,a⟩
    · obtain⟨j,u,k1,k2,k3⟩:=h2 x d' q2;exact⟨j+1,u,by simpa using k1,by simpa using k2,k3⟩
  · exact fo e
inductive Jy1 (c:Jx)(K:Frag)(a:Addr)(as:List Arg)(body:List Stmt)(sc:Scope):Prop where
 | mk (o:Obj) (fd:FuncData) (k1:K.lookup a=some o) (k2:o.data=.func fd) (k3:fd.body=.stmts body) (k4:fd.scope=sc) (k5:fd.closure=[]) (k6:fd.globals=mainGlobals) (k7:fd.builtins=builtinsNs) (k8:c.h₀.CodeRec fd.code fd.qualname)
   (k9:∀ vals:List Value,vals.length=as.length→bindArgs fd ⟨vals,[]⟩=pure ((as.map (·.arg)).zip vals))
structure Jp8 (c:Jx)(K:Frag)(a:Addr)(as:List Arg)(body:List Stmt)(sc:Scope):Prop where
 obj:Jy1 c K a as body sc
 co:sc.isCoroutine=false
 gen:sc.isGenerator=false
 kind:sc.kind=.function
 nodup:(as.map (·.arg)).Nodup
 kinds:∀ x∈as.map (·.arg),sc.names.lookup x=some .local∨(sc.names.lookup x=some .cell∧∀ L,((cellsFrom L sc.names []).lookup x).isSome=true)
def JHp (c:Jx)(ad:List Addr)(h:Heap):Fl→Flow→Prop
 | .next,v=>v=.next
 | .ret d,v=>∃ u,v=.ret u∧Je c.ν ad h d u
def JeX (c:Jx)(ad:List Addr)(fs:List JH)(s:Shared)(k:Fl→St→Bool)(Q:Flow→Shared→Prop):Prop :=
 ∀ ad' st' s' v d,Jk c ad' fs st' s'.heap→JN ad fs s ad' s'→JHp c ad' s'.heap d v→k d st'=true→Q v s'
def HSs (c:Jx)(F:FT')(n:Nat)(sc:Scope)(qs:List QS)(ss:List Stmt):Prop :=
 ∀ ⦃env:Env⦄ ⦃f:JH⦄ ⦃fs:List JH⦄ ⦃A:Around⦄ ⦃ad:List Addr⦄ ⦃st:St⦄ ⦃s:Shared⦄ ⦃k:Fl→St→Bool⦄ ⦃Q:Flow→Shared→Prop⦄,JY env f→f.sc=sc→Jz A n→Jk c ad (f::fs) st s.heap →
  (ev F C n).Ss qs st k=true→JeX c ad (f::fs) s k Q→wpAny (model c.prog c.w) A (execs ss env) Q (fun _ _=>False) s
noncomputable def Jh4 (Q:Value→Shared→Prop)(r:Result)(s':Shared):Prop:=match r with
 | .ok (.ret v)=>Q v s'
 | _=>False
theorem Je7 {α β:Type}:∀ {xs:List α}{ys:List β}{j:Nat}{x:α}{y:β},xs[j]?=some x→ys[j]?=some y→(x,y)∈xs.zip ys
 | a::xs,b::ys,0,x,y,e1,e2=>by cases e1; obtain rfl:=Jp e2; exact .head _
 | a::xs,b::ys,j+1,x,y,e1,e2=>by
  simp only[List.getElem?_cons_succ] at e1 e2;exact .tail _ (Je7 e1 e2)
 | [],_,_,_,_,e1,_=>by simp at e1
 | _::_,[],_,_,_,_,e2=>by simp at e2
section
variable {c:Jx}{F:FT'}{n:Nat}{sc:Scope}{K:Frag}{JB:List Addr}
set_option tactic.hygienic true in
theorem JpY (S:JcI c K JB)(lim:c.h₀.NoLimit){fi a:Nat}{as:List Arg}{body:List Stmt}{qas:List Nat}{qb:List QS}(X:Jp8 c K a as body sc)(hF:Js F fi=some (qas,qb))
  (hq:∀ (j:Nat) (x:Nat),qas[j]?=some x→∃ ar:Arg,as[j]?=some ar∧Js NT x=some ar.arg) (hlen:qas.length=as.length) (hb:HSs c F n sc qb body)
  {fs:List JH} (hfs:fs≠[]) {A:Around}{ad:List Addr}{st:St}{s:Shared}{ds:List D}{vals:List Value}{k:D→St→Bool}{Q:Value→Shared→Prop} (hA:Jz A (n+1)) (R:Jk c ad fs st s.heap) (z:Je.goL c.ν ad s.heap ds vals)
  (e:(ev F C (n+1)).call fi ds st k=true) (p:JaY c ad fs s k Q):codeAny (model c.prog c.w) A (.call (.ref a) ⟨vals,[]⟩) (Jh4 Q) s:=by
 have e:JcQ F (ev F C n) fi ds st k=true:=e;unfold JcQ at e;rw[hF] at e;simp only at e;split at e
 · refine Jf fun n1G=>?_;rename_i loc hl;obtain⟨l1,l2⟩:=JjN hl z;obtain⟨o,fd,k1,k2,k3,k4,k5,k6,k7,k8,k9⟩:=X.obj;subst k4;have len:vals.length=as.length:=l1.trans hlen;refine n1G ?_;clear n1G;refine codeAny_call_cells (by have:=hA.2.1; omega) (R.base _ _ (S.kin _ _ k1)) k2 (lim.keeps R.base) (k8.keeps R.base) k3 (k9 vals len) k5 ?_ (fun s₁ hs₁=>?_) X.co X.gen X.kind
   · intro x hx;have:x.1∈as.map (·.arg):=(List.of_mem_zip hx).1;exact (X.kinds _ this).imp id fun h=>⟨h.1,h.2 _⟩
   · let f:JH:=⟨s.heap.objs.size,cellsFrom (s.heap.objs.size+1) fd.scope.names [],fd.scope⟩;have hE:JY (callEnvC fd s.heap.objs.size a) f:=⟨rfl,rfl,rfl,k6,k7,X.kind⟩;obtain⟨⟨h1,tk,es⟩,hns,hk,hfr⟩:=hs₁.toInCall;have R1:Jk c ad fs st s₁.heap:=R.grow hk;have fresh:s.heap.get? f.L=none:=Jl _;have zipnd:(((as.map (·.arg)).zip vals).map (·.1)).Nodup:=by
      rw[List.map_fst_zip (by simp[len])]; exact X.nodup
     have loc1:Ja6 c.ν ad s₁.heap f loc:=by
      refine⟨_,hns,fun x nm d q1 q2=>?_⟩;refine Jf fun n2G=>?_;obtain⟨j,v,j1,j2,j3⟩:=l2 x d q2;obtain⟨ar,j4,j5⟩:=hq j x j1;obtain rfl:=sjt q1 j5;have mem:(ar.arg,v)∈(as.map (·.arg)).zip vals:=Je7 (by rw[List.getElem?_map,j4]; rfl) j2;have j6:=j3.mono (JaB.of_all hk).tup (fun _ _ e=>e);refine n2G ?_;clear n2G;refine⟨fun q=>⟨v,JeJ q zipnd mem,j6⟩,fun q=>?_⟩;have hx:ar.arg∈as.map (·.arg):=List.mem_map.mpr ⟨ar,List.mem_of_getElem? j4,rfl⟩;have isc:fd.scope.names.lookup ar.arg=some .cell∧∀ L,((cellsFrom L fd.scope.names []).lookup ar.arg).isSome=true:=by
       rcases X.kinds _ hx with h | h
       · rcases q with q | q <;> (rw[show f.sc=fd.scope from rfl,h] at q; cases q)
       · exact h
      obtain⟨cc,hcc⟩:=Option.isSome_iff_exists.mp (isc.2 (s.heap.objs.size+1));have cell:=hs₁.cell _ _ hcc;rw[Jhf (kd:=(callEnvC fd s.heap.objs.size a).kindOf) (by rw[show (callEnvC fd s.heap.objs.size a).kindOf ar.arg=fd.scope.names.lookup ar.arg from rfl,isc.1]; decide) zipnd mem] at cell;exact⟨cc,v,hcc,cell,j6⟩
     have notin:f.L ∉ ad∧f.L ∉ fs.map (·.L):=by
      constructor
      · intro h; obtain⟨ob,h2,_⟩:=R.old h; rw[fresh] at h2; cases h2
      · intro h;obtain⟨g,hg,eg⟩:=List.mem_map.mp h;obtain⟨ob,h2,_⟩:=R.frames.there g hg;rw[eg,fresh] at h2; cases h2
     have low:c.h₀.get? f.L=none:=by
      cases q:c.h₀.get? f.L with
      | none=>rfl
      | some o=>have:=R.base _ _ q; rw[fresh] at this; cases this
     have R2:Jk c ad (f::fs) (st.push loc) s₁.heap:=R1.into loc1 notin low;have hA2:Jz (A.deeper (callEnvC fd s.heap.objs.size a)) n:=⟨hA.1,by have:=hA.2.1; show A.depth+1+n<_; omega,by have:=hA.2.2; show A.units+3+_+_<_; omega⟩;refine wpAny_mono (hb hE rfl hA2 R2 e (Q:=fun fl s'=>Q (match fl with | .ret v=>v | _=>.none) s') fun ad' st' s' fl d R' x' i' e'=>?_) (fun fl s' q=>q) (fun _ _ q=>q.elim);obtain⟨l,r,er,R3⟩:=R'.outof hfs;rw[er] at e';refine p ad' _ s' _ (JrY d) R3 (x'.outof hk fresh (by rw[es]) (by rw[es]) (by rw[es])) ?_ e'
     cases d with
     | next=>have i':fl=_:=i'; subst i'; exact rfl
     | ret d=>obtain⟨u,rfl,i'⟩:=i'; exact i'
 · exact ff e
end
def HS (c:Jx)(F:FT')(n:Nat)(sc:Scope)(q:QS)(x:Stmt):Prop :=
 ∀ ⦃env:Env⦄ ⦃f:JH⦄ ⦃fs:List JH⦄ ⦃A:Around⦄ ⦃ad:List Addr⦄ ⦃st:St⦄ ⦃s:Shared⦄ ⦃k:Fl→St→Bool⦄ ⦃Q:Flow→Shared→Prop⦄,JY env f→f.sc=sc→Jz A n→Jk c ad (f::fs) st s.heap →
  (ev F C n).S q st k=true→JeX c ad (f::fs) s k Q→wpAny (model c.prog c.w) A (exec x env) Q (fun _ _=>False) s
theorem JeX.step {c:Jx}{ad ad1:List Addr}{fs:List JH}{s s1:Shared}{st1:St}{k:Fl→St→Bool}{Q:Flow→Shared→Prop}(p:JeX c ad fs s k Q)(x:JN ad fs s ad1 s1)(R:Jk c ad1 fs st1 s1.heap):JeX c ad1 fs s1 k Q :=
 fun ad' st' s' v d R' y i e=>p ad' st' s' v d R' (x.trans R y) i e
section
variable {c:Jx}{F:FT'}{n:Nat}{sc:Scope}{qa qb qt:QE}{ea eb et:Expr}{pos:Pos}{qs:List QS}{ss:List Stmt}
theorem JqA:HSs c F (n+1) sc [] []:=by
 intro env f fs A ad st s k Q hE hs hA R e p;exact wpAny_execs_nil (p ad st s _ .next R (.refl _ _ _) rfl e)
theorem Jnw {q:QS}{x:Stmt}(h:HS c F n sc q x)(hr:HSs c F n sc qs ss):HSs c F (n+1) sc (q::qs) (x::ss):=by
 intro env f fs A ad st s k Q hE hs hA R e p;have e:(ev F C n).S q st (fun f st=>match f with | .next=>(ev F C n).Ss qs st k | .ret d=>k (.ret d) st)=true:=e;refine wpAny_execs_cons (h hE hs hA.down R e fun ad1 st1 s1 v1 d1 R1 x1 i1 e1=>?_)
 cases d1 with
 | next =>
  have i1:v1=_:=i1;subst i1;exact hr hE hs hA.down R1 e1 (p.step x1 R1)
 | ret d =>
  obtain⟨u,rfl,i1⟩:=i1;exact p _ _ _ _ (.ret d) R1 x1 ⟨u,rfl,i1⟩ e1
theorem JdN {e:Expr}(h:JdI e=true)(t:Option Expr)(l:Nat)(env:Env):swapsWith e t l env=pure false:=by
 cases e <;> first | rfl | exact ff h
theorem Jpd {env:Env}{f:JH}(hE:JY env f):interactive env=false:=by
 unfold interactive;rw[hE.sc,hE.kind];rfl
theorem JpQ (h:HE c F n sc qa ea)(hc:JdI ea=true):HS c F (n+1) sc (.expr qa) (.Expr ea pos):=by
 intro env f fs A ad st s k Q hE hs hA R e p;have e:(ev F C n).E qa st (fun _ st=>k .next st)=true:=e;exact wpAny_Expr_any (h hE hs hA.down R e fun ad1 st1 s1 v1 d1 R1 x1 i1 e1=>p _ _ _ _ .next R1 x1 rfl e1) (Jpd hE) (JdN hc _ _ _)
theorem Jsg (h:HE c F n sc qa ea):HS c F (n+1) sc (.ret qa) (.Return (some ea) pos):=by
 intro env f fs A ad st s k Q hE hs hA R e p;have e:(ev F C n).E qa st (fun d st=>k (.ret d) st)=true:=e;exact wpAny_Return_some (h hE hs hA.down R e fun ad1 st1 s1 v1 d1 R1 x1 i1 e1=>p _ _ _ _ (.ret d1) R1 x1 ⟨v1,rfl,i1⟩ e1)
theorem Jxb {qs':List QS}{ss':List Stmt}(ht:HT c F n sc qt et)(ha:HSs c F n sc qs ss)(hb:HSs c F n sc qs' ss'):HS c F (n+1) sc (.ite qt qs qs') (.If et ss ss' pos):=by
 intro env f fs A ad st s k Q hE hs hA R e p;have e:JBH (ev F C n) qt qs qs' st k=true:=e;refine wpAny_If (ht hE hs hA.down R e fun ad1 st1 s1 b R1 x1 e1=>?_)
 cases b with
 | true=>exact ha hE hs hA.down R1 e1 (p.step x1 R1)
 | false=>exact hb hE hs hA.down R1 e1 (p.step x1 R1)
end
noncomputable def JgX (c:Jx)(ad:List Addr)(fs:List JH)(s:Shared)(k:St→Bool)(Q:Unit→Shared→Prop):Prop :=
 ∀ ad' st' s',Jk c ad' fs st' s'.heap→JN ad fs s ad' s'→k st'=true→Q () s'
def HA (c:Jx)(F:FT')(n:Nat)(sc:Scope)(q:QT)(t:Expr):Prop :=
 ∀ ⦃env:Env⦄ ⦃f:JH⦄ ⦃fs:List JH⦄ ⦃A:Around⦄ ⦃ad:List Addr⦄ ⦃st:St⦄ ⦃s:Shared⦄ ⦃k:St→Bool⦄ ⦃Q:Unit→Shared→Prop⦄ ⦃d:D⦄ ⦃v:Value⦄,JY env f→f.sc=sc→Jz A n→Jk c ad (f::fs) st s.heap →
  Je c.ν ad s.heap d v→(ev F C n).assign q d st k=true→JgX c ad (f::fs) s k Q→wpAny (model c.prog c.w) A (assign t env v) Q (fun _ _=>False) s
section
variable {c:Jx}{F:FT'}{n:Nat}{sc:Scope}{pos:Pos}
theorem Jrf (nt:∀ x y nm,Js NT x=some nm→Js NT y=some nm→x=y){x:Str}{i:Nat}(hi:Js NT i=some x)(hk:sc.names.lookup x=some .local):HA c F (n+1) sc (.name i) (.Name x pos):=by
 intro env f fs A ad st s k Q d v hE hs hA R hv e p;refine Jf fun n1G=>?_;subst hs;have e:k (st.setLoc i d)=true:=e;obtain⟨l,r,er,⟨m,hm,hl⟩,_⟩:=R.frames;have key:env.kindOf x=some .local:=by unfold Env.kindOf; rw[hE.sc]; exact hk
 refine n1G ?_;clear n1G;refine wpAny_assign_Name (wpAny_storeName_local (m:=m) key (hE.L ▸ hm) (fun h' hn' sb=>?_) ?_)
 · rw[hE.L] at hn' sb;exact p ad _ _ (R.setLoc nt hi hk hm hn' sb hv) (.setLoc (s':={ s with heap:=h',toks:=s.toks+1 }) R sb rfl rfl rfl) e
 · rw[hE.sc,hE.kind]; rfl
end
section
variable {c:Jx}{F:FT'}{n:Nat}{sc:Scope}{pos:Pos}{qa:QE}{ea:Expr}
theorem JgX.step {ad ad1:List Addr}{fs:List JH}{s s1:Shared}{st1:St}{k:St→Bool}{Q:Unit→Shared→Prop}(p:JgX c ad fs s k Q)(x:JN ad fs s ad1 s1)(R:Jk c ad1 fs st1 s1.heap):JgX c ad1 fs s1 k Q :=
 fun ad' st' s' R' y e=>p ad' st' s' R' (x.trans R y) e
set_option tactic.hygienic true in
theorem Jvh {K:Frag}{JB:List Addr}(S:JcI c K JB){x:Str}{i:Nat}(hi:Js NT i=some x){fs:List JH}{A:Around}{ad:List Addr}{st:St}{s:Shared}{k:St→Bool}{Q:Unit→Shared→Prop}{d o:D}{v ov:Value}(R:Jk c ad fs st s.heap)
  (hv:Je c.ν ad s.heap d v) (e:(match o with
   | .obj i'=>match st.objs.get i' with
    | some (.inst c dd)=>match Js C c with
     | some cl=>match JbV cl.att i with
      | true=>match st.objs.get dd with
       | some (.ns c' l)=>match JU l with | true=>k (st.set dd (.ns c' (Mine.putL l i d))) | false=>false
       | _=>false
      | false=>false
     | none=>false
    | _=>false
   | _=>false)=true) (ho:Je c.ν ad s.heap o ov) (p:JgX c ad fs s k Q):wpAny (model c.prog c.w) A (setAttr ov x v) Q (fun _ _=>False) s:=by
 cases o with
 | obj i' =>
  obtain⟨a,ha,rfl⟩:=ho;simp only at e;split at e
  · rename_i g;split at e
    · rename_i cl hc;split at e
      · rename_i hb;split at e
        · rename_i gl;split at e
          · rename_i hs;exact Jkv S R hi g hc hb gl hs ha hv fun s' R' x'=>p ad _ s' R' x' e
          · exact ff e
        · exact ff e
      · exact ff e
    · exact ff e
  · exact ff e
 | _=>exact ff e
theorem Jq1 {K:Frag}{JB:List Addr}(S:JcI c K JB)(h:HE c F n sc qa ea){x:Str}{i:Nat}(hi:Js NT i=some x):HA c F (n+1) sc (.attr qa i) (.Attribute ea x pos):=by
 intro env f fs A ad st s k Q d v hE hs hA R hv e p;have e:JrN C (ev F C n) qa i d st k=true:=e;rw[arm_assign_Attribute];refine wpAny_bind (wpAny_holding (h hE hs hA.down R e fun ad1 st1 s1 v1 d1 R1 x1 i1 e1=>?_));have p2:=p.step x1 R1;refine wpAny_bind (wpAny_standAt (wpAny_bind (wpAny_holding ?_)));exact Jvh S hi R1 (hv.mono x1.kept.tup x1.pre) e1 i1 fun ad' st' s' R' x' e'=>wpAny_release (p2 ad' st' s' R' x' e')
end
def HAs (c:Jx)(F:FT')(n:Nat)(sc:Scope)(qs:List QT)(ts:List Expr):Prop :=
 ∀ ⦃env:Env⦄ ⦃f:JH⦄ ⦃fs:List JH⦄ ⦃A:Around⦄ ⦃ad:List Addr⦄ ⦃st:St⦄ ⦃s:Shared⦄ ⦃k:St→Bool⦄ ⦃Q:Unit→Shared→Prop⦄ ⦃ds:List D⦄ ⦃vs:List Value⦄,JY env f→f.sc=sc→Jz A n→Jk c ad (f::fs) st s.heap →
  Je.goL c.ν ad s.heap ds vs→(ev F C n).assigns qs ds st k=true→JgX c ad (f::fs) s k Q→wpAny (model c.prog c.w) A (assignInOrder ((assignEach ts env).map (·.2)) vs) Q (fun _ _=>False) s
section
variable {c:Jx}{F:FT'}{n:Nat}{sc:Scope}{pos:Pos}
theorem JpE:HAs c F (n+1) sc [] []:=by
 intro env f fs A ad st s k Q ds vs hE hs hA R hv e p
 cases ds with
 | nil =>
  have hv:vs=[]:=hv;subst hv;exact wpAny_assignInOrder_none (p ad st s R (.refl _ _ _) e)
 | cons d ds=>exact ff e
theorem JoF {q:QT}{qs:List QT}{t:Expr}{ts:List Expr}(hstar:JA t=true)(h:HA c F n sc q t)(hr:HAs c F n sc qs ts):HAs c F (n+1) sc (q::qs) (t::ts):=by
 intro env f fs A ad st s k Q ds vs hE hs hA R hv e p;refine Jf fun n1G=>?_
 cases ds with
 | nil=>exact ff e
 | cons d ds =>
  have e:(ev F C n).assign q d st (fun st=>(ev F C n).assigns qs ds st k)=true:=e;obtain⟨v,r,rfl,hd,hv⟩:=hv;refine n1G ?_;clear n1G;have es:(assignEach (t::ts) env).map (·.2)=(fun v=>assign t env v)::(assignEach ts env).map (·.2):=by cases t <;> first | rfl | cases hstar
  rw[es];refine wpAny_assignInOrder_more (h hE hs hA.down R hd e fun ad1 st1 s1 R1 x1 e1=>?_);exact hr hE hs hA.down R1 (Je.monoL x1.kept.tup x1.pre hv) e1 (p.step x1 R1)
end
section
variable {c:Jx}{F:FT'}{n:Nat}{sc:Scope}{pos:Pos}
theorem Jj5:∀ (ts:List Expr) (env:Env),(assignEach ts env).length=ts.length
 | [],_=>rfl
 | t::ts,env=>by
  have:(assignEach (t::ts) env).length=(assignEach ts env).length+1:=by cases t <;> rfl
  rw[this,Jj5 ts env]; rfl
theorem JhA:∀ {ts:List Expr} (env:Env),(∀ t∈ts,JA t=true)→(assignEach ts env).findIdx? (·.1)=none
 | [],_,_=>rfl
 | t::ts,env,h=>by
  have e:assignEach (t::ts) env=(false,fun v=>assign t env v)::assignEach ts env:=by
   have:=h t (.head _)
   cases t <;> first | rfl | cases this
  rw[e,List.findIdx?_cons,JhA env fun x hx=>h x (.tail _ hx)];rfl
theorem Jgb {α β:Type}:∀ {l:List α}{r:List β},Jc8 l r=true→l.length=r.length
 | [],[],_=>rfl
 | _::l,_::r,e=>by
  have e:Jc8 l r=true:=e;simp[Jgb e]
 | [],_::_,e=>by cases e
 | _::_,[],e=>by cases e
theorem Jub {qs:List QT}{ts:List Expr}{x1:Nat}(hst:∀ t∈ts,JA t=true)(h:HAs c F n sc qs ts)(hlen:qs.length=ts.length):HA c F (n+1) sc (.tup qs) (.Tuple ts x1 pos):=by
 intro env f fs A ad st s k Q d v hE hs hA R hv e p;refine Jf fun n1G=>?_;have e:Je1 8 d st (fun d st=>match d with | .tup l=>(match Jc8 l qs with | true=>(ev F C n).assigns qs l st k | false=>false) | _=>false)=true:=e;obtain⟨d',st',h1,R',h2⟩:=JdX 8 R e hv
 cases d' with
 | tup l =>
  obtain⟨a,vs,rfl,t1,z1⟩:=h1.tup_inv;have h2:(match Jc8 l qs with | true=>(ev F C n).assigns qs l st' k | false=>false)=true:=h2;split at h2
  · rename_i hl;have hl:=Jgb hl;refine n1G ?_;clear n1G;refine wpAny_assign_Tuple hA.1 t1 (by rw[Jj5,List.size_toArray,Jm z1,hl,hlen]) (JhA env hst) fun h' hx=>?_;have hk:∀ b o,s.heap.get? b=some o→h'.get? b=some o:=fun b o e=>hx b o (Nat.ne_of_lt (Heap.lt_size e)) e;have R2:Jk c ad (f::fs) st' h':=R'.grow hk;have y:JN ad (f::fs) s ad { s with heap:=h' }:=.grow hk rfl rfl rfl;exact h (s:={ s with heap:=h' }) hE hs hA.down R2 (Je.monoL (JaB.of_all hk).tup (fun _ _ e=>e) z1) h2 (p.step y R2)
  · exact ff h2
 | _=>exact ff h2
end
section
variable {K:Type}[DecidableEq K]
theorem JeZ {k:K}{u v:Value}{r:List (K×Value)}(nd:k ∉ r.map (·.1)):stored ((k,u)::r) k v=(k,v)::r:=by
 unfold stored;have e:List.any ((k,u)::r) (fun kv=>decide (kv.1=k))=true:=by simp
 rw[if_pos e,List.map_cons,if_pos rfl];congr 1;have:r.map (fun kv=>if kv.1=k then (kv.1,v) else kv)=r.map id:=List.map_congr_left fun p hp=>by
  rw[if_neg]; rfl;intro q; exact nd (List.mem_map.mpr ⟨p,hp,q⟩)
 rw[this,List.map_id]
theorem Jcw {k k':K}(ne:k'≠k){u v:Value}{r:List (K×Value)}:stored ((k',u)::r) k v=(k',u)::stored r k v:=by
 unfold stored;rw[List.any_cons];have e:decide (k'=k)=false:=decide_eq_false ne;simp only[e,Bool.false_or];split
 · rw[List.map_cons,if_neg ne]
 · rfl
theorem JfQ {k:K}{v:Value}:∀ {a b:List (K×Value)},(∀ p∈a,p.1≠k)→stored (a++b) k v=a++stored b k v
 | [],_,_=>rfl
 | (k',u)::a,b,h=>by
  rw[List.cons_append,Jcw (h _ (.head _)),JfQ fun p hp=>h p (.tail _ hp)]; rfl
theorem JhZ {k:K}{a b:Addr}{u v:Value}{r:List (K×Addr×Value)}(nd:k ∉ r.map (·.1)):storedH ((k,a,u)::r) k b v=(k,a,v)::r:=by
 unfold storedH;rw[Jbe,if_pos rfl];simp only[Option.isSome_some,if_true,List.map_cons];have:r.map (putAt k v)=r.map id:=List.map_congr_left fun p hp=>by
  unfold putAt;rw[if_neg]; rfl;intro q; exact nd (List.mem_map.mpr ⟨p,hp,q⟩)
 rw[this,List.map_id];simp[putAt]
theorem JgV {k k':K}(ne:k'≠k){a b:Addr}{u v:Value}{r:List (K×Addr×Value)}:storedH ((k',a,u)::r) k b v=(k',a,u)::storedH r k b v:=by
 unfold storedH;rw[Jbe,if_neg ne];split
 · rw[List.map_cons]; simp[putAt,ne]
 · rfl
end
section
variable {c:Jx}{n:Nat}{ad:List Addr}{fs:List JH}{st:St}{s:Shared}{h:Heap}
theorem Jci {k v x d:D}{r l':List (D×D)}(e:Jb7 ((k,v)::r) x d=some l'):(eqK k x=some true∧l'=(k,d)::r)∨(eqK k x=some false∧∃ r',Jb7 r x d=some r'∧l'=(k,v)::r'):=by
 rcases ob3 (show (match eqK k x with
  | some true=>some ((k,d)::r)
  | some false=>match Jb7 r x d with | some r'=>some ((k,v)::r') | none=>none
  | none=>none)=some l' from e) with ⟨q,e⟩ | ⟨q,e⟩ | ⟨_,e⟩
 · exact .inl ⟨q,(Jp e).symm⟩
 · cases z:Jb7 r x d with
   | none=>rw[z] at e; exact fo e
   | some r'=>rw[z] at e; exact .inr ⟨q,r',rfl,(Jp e).symm⟩
 · exact fo e
theorem JsF {b:IE}{d:D}{u:Value}(hd:Je c.ν ad h d u):∀ {l l':List (D×D)}{kvs:List (Int×Value)},JaW c.ν ad h l kvs→(kvs.map (·.1)).Nodup→Jb7 l (.int b) d=some l'→JaW c.ν ad h l' (stored kvs (b.val c.ν) u)
 | [],_,_,e,_,q=>by
  have e:_=[]:=e;subst e; obtain rfl:=Jp q;exact⟨b,u,[],rfl,rfl,hd,rfl⟩
 | (k,v)::l,_,_,⟨e,w,kvs',hk,hkv,h1,h2⟩,nd,q=>by
  subst hk hkv;rw[List.map_cons,List.nodup_cons] at nd;rcases Jci q with ⟨q1,rfl⟩ | ⟨q1,r',q2,rfl⟩
  · have q1:IE.eq? e b=some true:=q1;have z:=of_decide_eq_true (IE.eq?_ok (ν:=c.ν) q1);rw[← z,JeZ nd.1];exact⟨e,u,kvs',rfl,rfl,hd,h2⟩
  · have q1:IE.eq? e b=some false:=q1;have z:=of_decide_eq_false (IE.eq?_ok (ν:=c.ν) q1);rw[Jcw z];exact⟨e,w,_,rfl,rfl,h1,JsF hd h2 nd.2 q2⟩
theorem JD0 {b:SE}{d:D}{u:Value}(hd:Je c.ν ad h d u):∀ {l l':List (D×D)}{kvs:List (Str×Value)},JbX c.ν ad h l kvs→(kvs.map (·.1)).Nodup→Jb7 l (.str b) d=some l'→JbX c.ν ad h l' (stored kvs (b.val c.ν) u)
 | [],_,_,e,_,q=>by
  have e:_=[]:=e;subst e; obtain rfl:=Jp q;exact⟨b,u,[],rfl,rfl,hd,rfl⟩
 | (k,v)::l,_,_,⟨e,w,kvs',hk,hkv,h1,h2⟩,nd,q=>by
  subst hk hkv;rw[List.map_cons,List.nodup_cons] at nd;rcases Jci q with ⟨q1,rfl⟩ | ⟨q1,r',q2,rfl⟩
  · have q1:SE.eq? e b=some true:=q1;have z:=of_decide_eq_true (SE.eq?_ok (ν:=c.ν) q1);rw[← z,JeZ nd.1];exact⟨e,u,kvs',rfl,rfl,hd,h2⟩
  · have q1:SE.eq? e b=some false:=q1;have z:=of_decide_eq_false (SE.eq?_ok (ν:=c.ν) q1);rw[Jcw z];exact⟨e,w,_,rfl,rfl,h1,JD0 hd h2 nd.2 q2⟩
theorem JwO {x:D}{q:IT}{b:Addr}(hx:IT.of c.ν x=some q){d:D}{u:Value}(hd:Je c.ν ad h d u):∀ {l l':List (D×D)}{xs:List (IT×Addr×Value)},Jaa c.ν ad h l xs→(xs.map (·.1)).Nodup→Jb7 l x d=some l'→Jaa c.ν ad h l' (storedH xs q b u)
 | [],_,_,e,_,z=>by
  have e:_=[]:=e;subst e; obtain rfl:=Jp z;exact⟨q,b,u,[],hx,rfl,hd,rfl⟩
 | (k,v)::l,_,_,⟨p,a,w,xs',hp,hkv,h1,h2⟩,nd,z=>by
  subst hkv;rw[List.map_cons,List.nodup_cons] at nd;rcases Jci z with ⟨q1,rfl⟩ | ⟨q1,r',q2,rfl⟩
  · have y:=of_decide_eq_true (JdK hp hx q1);subst y;rw[JhZ nd.1];exact⟨p,a,u,xs',hp,rfl,hd,h2⟩
  · have y:=of_decide_eq_false (JdK hp hx q1);rw[JgV y];exact⟨p,a,w,_,hp,rfl,h1,JwO hx hd h2 nd.2 q2⟩
theorem Jhj {P:D→Prop}{x d:D}:∀ {l l':List (D×D)},(∀ p∈l,P p.1)→P x→Jb7 l x d=some l'→∀ p∈l',P p.1
 | [],_,_,hx,e=>by cases e; intro p hp; cases List.mem_singleton.mp hp; exact hx
 | (k,v)::l,_,hl,hx,e=>by
  rcases Jci e with ⟨_,rfl⟩ | ⟨_,r',q2,rfl⟩
  · intro p hp;rcases List.mem_cons.mp hp with rfl | hp
    · exact hl (k,v) (.head _)
    · exact hl p (.tail _ hp)
  · intro p hp;rcases List.mem_cons.mp hp with rfl | hp
    · exact hl (k,v) (.head _)
    · exact Jhj (fun p hp=>hl p (.tail _ hp)) hx q2 p hp
theorem Jc7:∀ {l:List (D×D)}{kvs:List (Int×Value)},JaW c.ν ad h l kvs→kvs.length=l.length
 | [],_,e=>by have e:_=[]:=e; subst e; rfl
 | (_,_)::l,_,⟨e,w,kvs',hk,hkv,h1,h2⟩=>by subst hkv; exact congrArg (·+1) (Jc7 h2)
theorem Jhk:∀ {l:List (D×D)}{kvs:List (Str×Value)},JbX c.ν ad h l kvs→kvs.length=l.length
 | [],_,e=>by have e:_=[]:=e; subst e; rfl
 | (_,_)::l,_,⟨e,w,kvs',hk,hkv,h1,h2⟩=>by subst hkv; exact congrArg (·+1) (Jhk h2)
theorem Jdh:∀ {l:List (D×D)}{xs:List (IT×Addr×Value)},Jaa c.ν ad h l xs→xs.length=l.length
 | [],_,e=>by have e:_=[]:=e; subst e; rfl
 | (_,_)::l,_,⟨p,a,w,xs',hp,hkv,h1,h2⟩=>by subst hkv; exact congrArg (·+1) (Jdh h2)
theorem Jar {a:Addr}{h h':Heap}(P:JQ h a)(sb:Heap.SameBut a h h'):JaB h h':=fun b ob eb hb=>by
 refine Jf fun n1G=>?_;by_cases q:b=a
 · subst q;obtain⟨o2,e2,n1,n2⟩:=P;obtain rfl:=sjt eb e2;rcases hb with ⟨h1,xs,n,h2⟩ | ⟨v,h2⟩
   · exact absurd h2 (n1 xs n h1)
   · exact absurd h2 (n2 v)
 · refine n1G ?_;clear n1G;rw[sb.2 b q]; exact eb
theorem DictOf.nd {prog:Program}{w:World}{K:Type}[DecidableEq K]{knd:PySem.KeyKind prog w K}{a:Addr}{kvs:List (K×Value)}(x:h.DictOf knd a kvs):(kvs.map (·.1)).Nodup:=by
 obtain⟨o,es,ep,ho,hc,hd,hk,hp,hn⟩:=x; exact hn
theorem DictOfH.nd {prog:Program}{w:World}{a:Addr}{xs:List (IT×Addr×Value)}(x:h.DictOfH (Jan prog w) a xs):(xs.map (·.1)).Nodup:=by
 obtain⟨o,es,ep,ho,hc,hd,he,hk,hn⟩:=x; exact hn
theorem JL.rekind {a:Addr}{kd:Nat}(x:JL c.prog c.w c.ν c.clsA ad h a (.dict kd []))(k:Nat):JL c.prog c.w c.ν c.clsA ad h a (.dict k []):=by
 have e:Jbi h a:=by
  match kd with
  | 0=>obtain⟨kvs,h1,h2⟩:=x; have h2:kvs=[]:=h2; subst h2; exact .of h1
  | 1=>obtain⟨kvs,h1,h2⟩:=x; have h2:kvs=[]:=h2; subst h2; exact .of h1
  | 2=>obtain⟨kvs,h1,h2⟩:=x; have h2:kvs=[]:=h2; subst h2; exact .ofH h1
  | m+3=>exact .of x.2
 match k with
 | 0=>exact⟨[],e.dict,rfl⟩
 | 1=>exact⟨[],e.dict,rfl⟩
 | 2=>exact⟨[],e.dictH,rfl⟩
 | m+3=>exact⟨rfl,e.dict⟩
theorem JkY {x:D}{k:Nat}(e:JcF x=some k):Jho x=true∧Jr3 x=some k:=bmO e
theorem JfS {a:Addr}{k:Nat}{l l':List (D×D)}{x d:D}(o:JL c.prog c.w c.ν c.clsA ad s.heap a (.dict k l))(hk:JcF x=some k)(hl:l.length≤1001)(e:Jb7 l x d=some l'){key u:Value}
  (hx:Je c.ν ad s.heap x key) (hd:Je c.ν ad s.heap d u) {A:Around} (hA:A.units+32<cLine) {E:Value→Shared→Prop}{Q:Unit→Shared→Prop}
  (q:∀ h' tk,Heap.SameBut a s.heap h'→JL c.prog c.w c.ν c.clsA ad h' a (.dict k l')→Q () { s with heap:=h',toks:=tk }):wpAny (model c.prog c.w) A (dictSet a key u) Q E s:=by
 refine Jf fun n1G=>?_;obtain⟨ok,kk⟩:=JkY hk;have P:=o.there
 cases x with
 | int b =>
  obtain rfl:=Jp kk;obtain⟨kvs,h1,h2⟩:=o;obtain⟨t,rfl⟩:=hx;refine n1G ?_;clear n1G;refine wpAny_dictSet_pairs Jgt h1 (fun h' hm sb=>q _ _ sb ?_) (by rw[Jc7 h2,sizeLine_eq]; omega);have kp:=Jar P sb;exact⟨_,hm,(JsF hd h2 (DictOf.nd h1) e).mono kp.tup fun _ _ e=>e⟩
 | str b =>
  obtain rfl:=Jp kk;obtain⟨kvs,h1,h2⟩:=o;obtain⟨⟨t,rfl⟩,_⟩:=hx;refine n1G ?_;clear n1G;refine wpAny_dictSet_pairs Jla h1 (fun h' hm sb=>q _ _ sb ?_) (by rw[Jhk h2,sizeLine_eq]; omega);have kp:=Jar P sb;exact⟨_,hm,(JD0 hd h2 (DictOf.nd h1) e).mono kp.tup fun _ _ e=>e⟩
 | tup m =>
  obtain rfl:=Jp kk;obtain⟨kvs,h1,h2⟩:=o;obtain⟨p,b,rfl,h4,h5⟩:=Jgn ok hx;refine n1G ?_;clear n1G;refine wpAny_dictSet_heap (show A.units+20<cLine by omega) h5 h1 (fun h' hm sb=>q _ _ sb ?_) (by rw[Jdh h2,sizeLine_eq]; omega);have kp:=Jar P sb;exact⟨_,hm,(JwO h4 hd h2 (DictOfH.nd h1) e).mono kp.tup fun _ _ e=>e⟩
 | _=>exact fo kk
theorem Jd4 {a:Addr}{key u:Value}{A:Around}{Q:Unit→Shared→Prop}(hT:s.TypeIs (.ref a) "dict")(h:wpAny (model c.prog c.w) A.in1 (dictSet a key u) Q (fun _ _=>False) s):wpAny (model c.prog c.w) A (setItem (.ref a) key u) Q (fun _ _=>False) s:=by
 unfold setItem
 try with_reducible refine wpAny_holding ?_
 refine wpAny_bind (wpAny_sequenceKey hT (by decide) ?_);refine wpAny_bind (wpAny_callSpecial?_slot (name:=Str.ofString "__setitem__") hT slot_dict_setitem
  (wpAny_call_entry slot_dict_setitem hT entry_dict_setitem ?_ (args_dict_setitem _ _ _)))
 show wpAny _ _ (Builtin.Dict.notOrdered "__setitem__" ⟨[.ref a,key,u],[]⟩ >>= _) _ _ s;refine wpAny_bind (wpAny_notOrdered_dict hT ?_);show wpAny _ _ (dictSet a key u >>= _) _ _ s;exact wpAny_bind (wpAny_mono h (fun _ _ q=>wpAny_pure ⟨.none,rfl,wpAny_pure q⟩) fun _ _ q=>q.elim)
theorem JL.dictT {a:Addr}{k:Nat}{l:List (D×D)}(o:JL c.prog c.w c.ν c.clsA ad s.heap a (.dict k l)):s.TypeIs (.ref a) "dict":=by
 match k with
 | 0=>obtain⟨kvs,h1,h2⟩:=o; exact h1.typeIs
 | 1=>obtain⟨kvs,h1,h2⟩:=o; exact h1.typeIs
 | 2=>obtain⟨kvs,h1,h2⟩:=o; exact h1.typeIs
 | m+3=>exact o.2.typeIs
theorem JgN {prog:Program}{w:World}{A:Around}{E:Value→Shared→Prop}{l:Addr}{items:Array Value}{k:Int}{t:Tok}{v:Value}{Q:Unit→Shared→Prop}(hl:s.heap.PlainList l items)(h0:0≤k)(hfit:k<2 ^ 63)(hn:k<items.size)
  (hQ:∀ h',h'.PlainList l (items.setIfInBounds k.toNat v)→Heap.SameBut l s.heap h'→Q () { s with heap:=h' }):wpAny (model prog w) A (setItem (.ref l) (.int k t) v) Q E s:=by
 obtain⟨n,ho⟩:=id hl;have hT:=hl.isList.typeIs;unfold setItem
 try with_reducible refine wpAny_holding ?_
 refine wpAny_bind (wpAny_sequenceKey hT (by decide) (wpAny_bind (wpAny_callSpecial?_slot (name:=Str.ofString "__setitem__") hT slot_list_setitem
  (wpAny_call_entry slot_list_setitem hT entry_list_setitem ?_ (args_list_setitem _ _ _)))))
 show wpAny _ _ (Builtin.List.listSubscript? (.int k t) >>= _) _ _ s;refine wpAny_bind (wpAny_listSubscript_int (fitsIndex_of h0 hfit) ?_);clear hfit;obtain⟨j,rfl⟩:=Int.eq_ofNat_of_zero_le h0;have hx:items[j]?=some items[j]:=Array.getElem?_eq_getElem (by omega);show wpAny _ _ ((seqItemAt l j >>= fun r=>pure (r.map (j,·))) >>= _) _ _ s;refine wpAny_bind (wpAny_bind (wpAny_seqItemAt ho rfl (wpAny_pure ?_)));rw[hx];show wpAny _ _ (setSeqItemAt l j v >>= _) _ _ s;have fin:(s.heap.update l (Obj.mapSeq (·.setIfInBounds j v))).PlainList l (items.setIfInBounds j v):=by
  obtain⟨n',hd'⟩:=Obj.data_mapSeq (o:={ cls:=.type "list",data:=.seq items n }) rfl (·.setIfInBounds j v);have e:=Heap.get?_update_self (Obj.mapSeq (·.setIfInBounds j v)) ho (Obj.isFreed_of_seq hd');exact⟨n',by rw[e,← hd']; rfl⟩
 refine wpAny_bind (wpAny_setSeqItemAt ho rfl ?_)
 first
  | exact wpAny_bind (wpAny_pure (wpAny_pure ⟨.none,rfl,wpAny_pure (hQ _ fin (Heap.SameBut.update ..))⟩))
  | exact wpAny_pure ⟨.none,rfl,wpAny_pure (hQ _ fin (Heap.SameBut.update ..))⟩
theorem Jlg {d:D}{v:Value}(hd:Je c.ν ad h d v):∀ {l:List D}{vs:List Value} (k:Nat),Je.goL c.ν ad h l vs→Je.goL c.ν ad h (l.set k d) (vs.set k v)
 | [],_,_,e=>by have e:_=[]:=e; subst e; rfl
 | _::l,_,0,⟨w,r,e,a,b⟩=>by subst e; exact⟨v,r,rfl,hd,b⟩
 | _::l,_,k+1,⟨w,r,e,a,b⟩=>by subst e; exact⟨w,r.set k v,rfl,a,Jlg hd k b⟩
inductive JnS (x d:D):Jo→Jo→Prop
 | empty (kd k:Nat) (hk:JcF x=some k):JnS x d (.dict kd []) (.dict k [(x,d)])
 | row (k:Nat) (l l':List (D×D)) (hk:JcF x=some k) (hs:JU l=true) (hp:Jb7 l x d=some l'):JnS x d (.dict k l) (.dict k l')
 | irow (l l':List (D×D)) (m:Nat) (ex:x=.int (.var 1 (.ofNat m))) (hs:JU l=true) (hp:Jb7 l x d=some l'):JnS x d (.idict l) (.idict l')
 | item (l:List D) (k:Nat) (w:D) (hk:Jek x=some k) (hw:Js l k=some w):JnS x d (.list 0 l) (.list 0 (Jkq l k d))
theorem Jo9 {l:List (D×D)}{x d:D}{A:List (D×D)→Jo}{o:Jo}(e:(match Jb7 l x d with | some l=>some (A l) | none=>none)=some o):E1 (fun l'=>Jb7 l x d=some l') fun l'=>o=A l':=by
 cases hp:Jb7 l x d with
 | none=>rw[hp] at e; exact fo e
 | some l'=>rw[hp] at e; exact⟨l',rfl,(Jp e).symm⟩
theorem Jnd {o o':Jo}{x d:D}(e:Jst o x d=some o'):JnS x d o o':=by
 cases o with
 | dict kd l =>
  obtain⟨k,hk,e2⟩:=onO e
  cases l with
  | nil=>obtain rfl:=Jp e2; exact .empty kd k hk
  | cons p l =>
   obtain⟨hkd,e3⟩:=bmO e2;obtain rfl:=nbq hkd;obtain⟨hs,e4⟩:=bmO e3;obtain⟨l',hp,rfl⟩:=Jo9 e4;exact .row k _ l' hk hs hp
 | idict l =>
  cases x with
  | int x =>
   cases x with
   | var t o =>
    match t with
    | 1 =>
     cases o with
     | ofNat m =>
      obtain⟨hs,e⟩:=bmO e;obtain⟨l',hp,rfl⟩:=Jo9 e;exact .irow l l' m rfl hs hp
     | negSucc _=>exact fo e
    | 0=>exact fo e
    | _+2=>exact fo e
   | _=>exact fo e
  | _=>exact fo e
 | list t l =>
  cases t with
  | succ _=>exact fo e
  | zero =>
   obtain⟨k,hk,e⟩:=onO e;obtain⟨w,hw,e⟩:=odO e;obtain rfl:=Jp e;exact .item l k w hk hw
 | _=>exact fo e
theorem Jra {m:Nat}{k0:List (Int×Value)}(z2:∀ p∈k0,p.1<c.ν.iv 1∧(k0.length:Int)≤c.ν.iv 4):∀ p∈k0,p.1≠IE.val c.ν (.var 1 (.ofNat m)):=by
 intro p hp q;have:=(z2 p hp).1;have e2:(IE.val c.ν (.var 1 (.ofNat m)):Int)=c.ν.iv 1+(m:Int):=rfl;rw[q,e2] at this;omega
theorem Jn9 {k0:List (Int×Value)}(z2:∀ p∈k0,p.1<c.ν.iv 1∧(k0.length:Int)≤c.ν.iv 4):k0.length≤100000:=by
 cases k0 with
 | nil=>exact Nat.zero_le _
 | cons p r =>
  have y:=(z2 p (.head _)).2;have y2:=(c.small 4 (by decide)).2;simp only[List.length_cons] at y ⊢;omega
theorem Jls (R:Jk c ad fs st s.heap){i kd k:Nat}{l l':List (D×D)}{l0:List (D×D)}{x d:D}(g:st.objs.get i=some (.dict kd l0)){a:Addr}(ha:ad[i]?=some a)(hk:JcF x=some k)(ho:JL c.prog c.w c.ν c.clsA ad s.heap a (.dict k l))(hl:l.length≤1001)(hp:Jb7 l x d=some l'){key u:Value}(hx:Je c.ν ad s.heap x key)(hd:Je c.ν ad s.heap d u)
  {A:Around} (hA:Jz A n) {Q:Unit→Shared→Prop} (q:∀ s',Jk c ad fs (st.set i (.dict k l')) s'.heap→JN ad fs s ad s'→Q () s'):wpAny (model c.prog c.w) A (setItem (.ref a) key u) Q (fun _ _=>False) s:=by
 have ma:a∈ad:=List.mem_iff_getElem?.mpr ⟨_,ha⟩;have hU:=hA.units;refine Jd4 ho.dictT (JfS ho hk hl hp hx hd (show A.units+1+32<cLine by omega) fun h' tk sb oi=>?_);exact q _ (R.upd g ha sb rfl oi (fun _ _ e=>by cases e) (fun _ _ e=>by cases e)) (.upd (s':={ s with heap:=h',toks:=tk }) R ma sb rfl rfl rfl)
theorem Jk2 (R:Jk c ad fs st s.heap){i:Nat}{o o':Jo}{x d:D}(g:st.objs.get i=some o)(e:Jst o x d=some o'){v key u:Value}(hv:Je c.ν ad s.heap (.obj i) v)(hx:Je c.ν ad s.heap x key)(hd:Je c.ν ad s.heap d u)
  {A:Around} (hA:Jz A n) {Q:Unit→Shared→Prop} (q:∀ s',Jk c ad fs (st.set i o') s'.heap→JN ad fs s ad s'→Q () s'):wpAny (model c.prog c.w) A (setItem v key u) Q (fun _ _=>False) s:=by
 refine Jf fun n1G=>?_;obtain⟨a,ha,rfl⟩:=hv;obtain⟨a',h1,h2,_⟩:=R.objs i o g;obtain rfl:=sjt ha h1;have ma:a∈ad:=List.mem_iff_getElem?.mpr ⟨_,ha⟩;have hU:=hA.units
 cases Jnd e with
 | empty kd k hk =>
  exact n1G (Jls R g ha hk (h2.rekind k) (by decide) rfl hx hd hA q)
 | row k l l' hk hs hp =>
  exact n1G (Jls R g ha hk h2 (Nat.le_succ_of_le (Jy hs)) hp hx hd hA q)
 | irow l l' m ex hs hp =>
  subst ex;obtain⟨k0,kvs,z1,z2,z3,z4⟩:=h2;obtain⟨t,rfl⟩:=hx;have ne:=Jra (m:=m) z2;have len:=Jn9 (c:=c) z2;have nd:=DictOf.nd z1;rw[List.map_append,List.nodup_append] at nd;have n1:=Jc7 z3;have sl:=Jy hs;have P:=JQ.of z1;refine n1G ?_;clear n1G;refine Jd4 z1.typeIs (wpAny_dictSet_pairs Jgt z1 (fun h' hm sb=>?_) (by rw[List.length_append,sizeLine_eq]; omega));have kp:=Jar P sb;rw[JfQ ne] at hm;refine q _ (R.upd g ha sb rfl ⟨k0,_,hm,z2,(JsF hd z3 nd.2.1 hp).mono kp.tup (fun _ _ e=>e),?_⟩ (fun _ _ e=>by cases e) (fun _ _ e=>by cases e)) (.upd (s':={ s with heap:=h',toks:=s.toks+1 }) R ma sb rfl rfl rfl);exact Jhj (P:=fun k=>∃ n,k=.int (.var 1 (.ofNat n))) z4 ⟨m,rfl⟩ hp
 | item l k w hk hw =>
  obtain⟨rfl,lt⟩:=JcA hk;obtain⟨items,v1,v2,g1,g2,g3,g4⟩:=h2;have g3:v1=[]:=g3;subst g3;obtain⟨t,rfl⟩:=hx;obtain⟨w1,y1,y2⟩:=Jc4 g4 hw;have hlt:k<v2.length:=(List.getElem?_eq_some_iff.mp y1).1;have sz:items.size=v2.length:=by rw[← Array.length_toList,g2]; rfl
  have vi:IE.val c.ν (.lit (.ofNat k))=((k:Nat):Int):=rfl;have P:JQ s.heap a:=by
   refine Jf fun n2G=>?_;obtain⟨ob,ho,hc,n',hdd⟩:=g1.isList;refine n2G ?_;clear n2G;refine⟨ob,ho,?_,?_⟩
   · intro xs n q; rw[hc] at q; simp at q
   · intro v q; rw[hdd] at q; cases q
  refine n1G ?_;clear n1G;rw[vi];refine JgN g1 (by omega) (by omega) (by rw[sz]; omega) fun h' hl' sb=>?_;have kp:=Jar P sb;refine q _ (R.upd g ha sb rfl ⟨_,[],v2.set k u,hl',?_,rfl,?_⟩ (fun _ _ e=>by cases e) (fun _ _ e=>by cases e)) (.upd (s':={ s with heap:=h' }) R ma sb rfl rfl rfl)
  · rw[Array.toList_setIfInBounds,g2]; rfl
  · rw[JfB];exact Je.monoL kp.tup (fun _ _ e=>e) (Jlg hd k g4)
variable {F:FT'}{sc:Scope}{qa qb:QE}{ea eb:Expr}{pos:Pos}
theorem Ju8 (ha:HE c F n sc qa ea)(hb:HE c F n sc qb eb):HA c F (n+1) sc (.sub qa qb) (.Subscript ea eb pos):=by
 intro env f fs A ad st s k Q d v hE hs hA R hv e p;have e:JD9 (ev F C n) qa qb d st k=true:=e;rw[arm_assign_Subscript];refine wpAny_bind (wpAny_holding (ha hE hs hA.down R e fun ad1 st1 s1 v1 d1 R1 x1 i1 e1=>?_));refine wpAny_bind (wpAny_holding (hb hE hs hA.down R1 e1 fun ad2 st2 s2 v2 d2 R2 x2 i2 e2=>?_));refine wpAny_bind (wpAny_standAt (wpAny_bind (wpAny_holding ?_)));refine Jf fun n1G=>?_;have x3:=x1.trans R1 x2;have p2:=p.step x3 R2
 cases d1 with
 | obj i =>
  obtain⟨o,g,e2⟩:=ooT e2;obtain⟨o',hp,e2⟩:=ooT e2;exact n1G (Jk2 (n:=n+1) R2 g hp (i1.mono x2.kept.tup x2.pre) i2 (hv.mono x3.kept.tup x3.pre) hA fun s' R' x'=>wpAny_release (p2 _ _ _ R' x' e2))
 | _=>exact ff e2
end
section
variable {c:Jx}{F:FT'}{n:Nat}{sc:Scope}{qa qb ql qr:QE}{ea eb el er:Expr}{pos:Pos}
theorem JbU {ν:Vl}{ad:List Addr}{h:Heap}:∀ {l:List D}{vs:List Value},Je.goL ν ad h l vs→Je.goL ν ad h l.reverse vs.reverse
 | [],_,e=>by have e:_=[]:=e; subst e; rfl
 | d::l,_,⟨v,r,e,a,b⟩=>by
  subst e;rw[List.reverse_cons,List.reverse_cons];exact JbN (JbU b) ⟨v,[],rfl,a,rfl⟩
theorem Jb2 {e:Expr}{i:Int}(h:JaK e=some i):∃ k p,e=.Constant (.int i) k p:=by
 cases e with
 | Constant co k p =>
  cases co with
  | int j=>exact⟨k,p,by obtain rfl:=Jp h; rfl⟩
  | _=>exact fo h
 | _=>exact fo h
theorem JmN {e:Expr}(h:Jvk e=true):∃ k q p,e=.UnaryOp .USub (.Constant (.int 1) k q) p:=by
 cases e with
 | UnaryOp op e p =>
  cases op with
  | USub =>
   have h:(match JaK e with | some i=>iEq i 1 | none=>false)=true:=h
   cases hc:JaK e with
   | none=>rw[hc] at h; exact ff h
   | some i =>
    rw[hc] at h;obtain rfl:=JbS.mp h;obtain⟨k,q,rfl⟩:=Jb2 hc;exact⟨k,q,p,rfl⟩
  | _=>exact ff h
 | _=>exact ff h
noncomputable abbrev Jbs (s:Shared)(t:Tok):Shared:={ s with heap:=s.heap.push { cls:=.type "slice",data:=.fields #[.none,.none,.int (-1) t] } }
theorem JsV {em:Expr}{p0:Pos}(ha:HE c F n sc qa ea)(hm:Jvk em=true):HE c F (n+1) sc (.rev qa) (.Subscript ea (.Slice none none (some em) p0) pos):=by
 intro env f fs A ad st s k Q hE hs hA R e p;have e:JEU (ev F C n) qa st k=true:=e;rw[arm_eval_Subscript];refine wpAny_bind (ha hE hs hA.down R e fun ad1 st1 s1 v1 d1 R1 x1 i1 e1=>?_)
 cases d1 with
 | obj i =>
  refine Jf fun n1G=>?_;obtain⟨l,g,e1⟩:=lsT e1;obtain⟨z,e1⟩:=bmT e1;have len:=Jy z;obtain⟨a,k1,rfl⟩:=i1;have p2:=p.step x1 R1;obtain⟨k0,q0,pm,rfl⟩:=JmN hm;refine n1G ?_;clear n1G;refine wpAny_bind (wpAny_holding (wpAny_Slice ?_));rw[evalPart_none];refine wpAny_pure (wpAny_pure ?_);show wpAny _ _ (eval (.UnaryOp .USub (.Constant (.int 1) k0 q0) pm) env) _ _ _;refine wpAny_UnaryOp (wpAny_Constant_int ?_);refine JnF (n:=n+1) (s:={ s1 with toks:=s1.toks+1 }) (x:=.int (.lit 1)) (r:=.int (.lit (-1))) R1 rfl ⟨_,rfl⟩ A _ hA fun s2 v2 R2 x2 i2=>?_;refine Jf fun n3G=>?_;obtain⟨t2,rfl⟩:=i2;have x2:JN ad1 (f::fs) s1 ad1 s2:=JN.trans (s:=s1) (s':={ s1 with toks:=s1.toks+1 }) (JN.quiet rfl rfl rfl rfl) R1 x2;obtain⟨w2,g1,g4⟩:=R2.list0 g k1;have g1:=g1.isList;have n1:=Jm g4;have sz:w2.toArray.size=w2.length:=List.size_toArray;have R3:Jk c ad1 (f::fs) st1 (Jbs s2 t2).heap:=R2.push _;have x3:JN ad1 (f::fs) s1 ad1 (Jbs s2 t2):=x2.trans R2 (.grow (fun _ _ e=>Heap.get?_push_of_some _ e) rfl rfl rfl);refine n3G ?_;clear n3G;refine wpAny_bind (wpAny_standAt ?_);refine tail_any (s:=Jbs s2 t2) (value:=ea) (slice:=.Slice none none _ p0) (ops:=[.ref a,.ref s2.heap.objs.size]) (T:="list") ?_ list_getitem_lookup ?_ rfl
  · exact Heap.IsList.typeIs (s:=Jbs s2 t2) (g1.push _)
  · refine wpAny_getItem_list_slice (s:=Jbs s2 t2) (lo:=none) (hi:=none) (st:=some (-1)) (g1.push _) (Heap.IsSliceOf.new ..) .none .none (.int (-1) t2) (by decide) ?_ (by rw[sz,sizeLine_eq]; omega);rw[krv_pick];have k3:∀ b o,(Jbs s2 t2).heap.get? b=some o→((Jbs s2 t2).heap.push { cls:=.type "list",data:=.seq w2.reverse.toArray }).get? b=some o:=fun _ _ e=>Heap.get?_push_of_some _ e;have gl:Je.goL c.ν ad1 (Jbs s2 t2).heap l.reverse w2.reverse:=JbU (Je.monoL (Jam _ _) (fun _ _ e=>e) g4);exact (p2.step x3 R3) _ _ _ _ _ (JfI R3 k3 (Jl _) ⟨_,Heap.get?_push_size _ rfl⟩ gl) (.alloc k3 (Jl _) rfl rfl rfl) (JcB R3) e1
 | _=>exact ff e1
end
section
variable {c:Jx}{n:Nat}{ad ad':List Addr}{fs:List JH}{st:St}{h h':Heap}
theorem Jk.side' (R:Jk c ad fs st h){a:Addr}(hn:a ∉ ad)(hf:a ∉ fs.map (·.L))(h0:c.h₀.get? a=none)(sb:Heap.ExtBut a h h')(k:JaB h h'):Jk c ad fs st h':=by
 have same:∀ {b},JQ h b→b≠a→h'.get? b=h.get? b:=fun {b} ⟨o,e,_⟩ q=>by rw[e]; exact sb b o q e
 refine⟨R.dense,R.len,fun i o e=>?_,R.link,R.nodup,R.frames.move (fun f hf'=>same (R.frames.there f hf') ?_) k (fun _ _ e=>e),R.low,fun b o e=>?_,R.dom,R.root⟩
 · obtain⟨b,h1,h2,h3⟩:=R.objs i o e;refine⟨b,h1,h2.move (same h2.there ?_) k.tup (fun _ _ e=>e),h3⟩;intro q; subst q;exact hn (List.mem_iff_getElem?.mpr ⟨i,h1⟩)
 · intro q; exact hf (List.mem_map.mpr ⟨f,hf',q⟩)
 · refine sb b o ?_ (R.base b o e);intro q; subst q;rw[h0] at e; cases e
theorem Jk.side (R:Jk c ad fs st h){a:Addr}(hn:a ∉ ad)(hf:a ∉ fs.map (·.L))(h0:c.h₀.get? a=none)(sb:Heap.SameBut a h h')(k:JaB h h'):Jk c ad fs st h':=R.side' hn hf h0 sb.extBut k
theorem Jk.adopt (R:Jk c ad fs st h){a:Addr}(hn:a ∉ ad)(hf:a ∉ fs.map (·.L))(h0:c.h₀.get? a=none){o:Jo}
  (x:JL c.prog c.w c.ν c.clsA (ad++[a]) h a o) (hl:∀ kk d,o=.inst kk d→∃ l,st.objs.get d=some (.ns kk l)):Jk c (ad++[a]) fs (st.alloc o) h:=by
 have Z:=JD.put_new o R.dense;have lt:∀ {i o},st.objs.get i=some o→i≠st.n:=fun {i o} e q=>by
  have:=(R.dense.some_iff i).mp (by rw[e]; rfl);omega
 have pr:=Pre.snoc ad a;refine⟨Z.1,?_,fun i o' e=>?_,fun i kk d e=>?_,?_,R.frames.move (fun _ _=>rfl) (.refl _) pr,R.low,R.base,R.dom,fun i b e=>pr i b (R.root i b e)⟩
 · show (ad++[a]).length=Nat.succ st.n;rw[List.length_append,R.len]; rfl
 · replace e:(st.objs.put st.n o).get i=some o':=e;rw[Z.2] at e;split at e
   · rename_i q;subst q;obtain rfl:=Jp e;refine⟨a,?_,x,.inr h0⟩;rw[← R.len,List.getElem?_append_right (Nat.le_refl _),Nat.sub_self]; rfl
   · obtain⟨b,h1,h2,h3⟩:=R.objs i o' e;exact⟨b,pr _ _ h1,h2.move rfl (.refl _) pr,h3⟩
 · replace e:(st.objs.put st.n o).get i=some (.inst kk d):=e;rw[Z.2] at e;have on:∃ l,st.objs.get d=some (.ns kk l):=by
    split at e
    · obtain rfl:=Jp e; exact hl _ _ rfl
    · exact R.link i kk d e
   obtain⟨l,q⟩:=on;refine⟨l,?_⟩;show (st.objs.put st.n o).get d=_;rw[Z.2,if_neg (lt q)]; exact q
 · have n:=R.nodup;rw[List.nodup_append] at n ⊢;refine⟨?_,n.2.1,?_⟩
   · rw[List.nodup_append];refine⟨n.1,by simp,fun b hb d hd=>?_⟩
     cases List.mem_singleton.mp hd
     intro e; subst e; exact hn hb
   · intro b hb d hd;rcases List.mem_append.mp hb with hb | hb
     · exact n.2.2 b hb d hd
     · cases List.mem_singleton.mp hb
       intro e; subst e; exact hf hd
theorem Jk.fresh (R:Jk c ad fs st h){a:Addr}(e:h.get? a=none):a ∉ ad∧a ∉ fs.map (·.L)∧c.h₀.get? a=none:=by
 refine⟨fun q=>?_,fun q=>?_,?_⟩
 · obtain⟨o,h1,_⟩:=R.old q; rw[e] at h1; cases h1
 · obtain⟨g,hg,rfl⟩:=List.mem_map.mp q;obtain⟨o,h1,_⟩:=R.frames.there g hg; rw[e] at h1; cases h1
 · cases q:c.h₀.get? a with
   | none=>rfl
   | some o=>rw[R.base a o q] at e; cases e
theorem JN.side' {s s1 s2:Shared}(x:JN ad fs s ad' s1){a:Addr}(ha:s.heap.get? a=none)(sb:Heap.ExtBut a s1.heap s2.heap)(k:JaB s1.heap s2.heap)(hg:s2.gens=s1.gens)(hd:s2.drawn=s1.drawn)(ho:s2.os=s1.os):JN ad fs s ad' s2 :=
 ⟨x.pre,x.newer,fun b o e n1 n2=>sb b o (fun q=>by subst q; rw[ha] at e; cases e) (x.keep b o e n1 n2),x.kept.trans k,hg.trans x.gens,hd.trans x.drawn,ho.trans x.os⟩
theorem JN.side {s s1 s2:Shared}(x:JN ad fs s ad' s1){a:Addr}(ha:s.heap.get? a=none)(sb:Heap.SameBut a s1.heap s2.heap)(k:JaB s1.heap s2.heap)(hg:s2.gens=s1.gens)(hd:s2.drawn=s1.drawn)(ho:s2.os=s1.os):JN ad fs s ad' s2:=x.side' ha sb.extBut k hg hd ho
theorem JN.adopt {s s1:Shared}(x:JN ad fs s ad' s1){a:Addr}(ha:s.heap.get? a=none):JN ad fs s (ad'++[a]) s1 :=
 ⟨fun i b e=>Pre.snoc ad' a i b (x.pre i b e),fun b hb=>(List.mem_append.mp hb).elim (x.newer b) fun e=>.inr (by cases List.mem_singleton.mp e; exact ha),x.keep,x.kept,x.gens,x.drawn,x.os⟩
theorem JN.still {s s1:Shared}(x:JN ad fs s ad' s1)(R:Jk c ad fs st s.heap){a:Addr}{o:Obj}(e:s.heap.get? a=some o)(hn:a ∉ ad)(hf:a ∉ fs.map (·.L)):s1.heap.get? a=some o∧a ∉ ad' :=
 ⟨x.keep a o e hn hf,fun q=>(x.newer a q).elim hn fun q=>by rw[e] at q; cases q⟩
end
section
variable {c:Jx}{F:FT'}{n:Nat}{sc:Scope}{qa qb ql qr:QE}{ea eb el er:Expr}{pos:Pos}
theorem JrF {op:CmpOp}{i j:Int}{k1 k2:Nat}{p0 p1 p2:Pos}(hl:HE c F n sc ql el)(hr:HE c F n sc qr er)(hm:behindInMarks op er=false):HE c F (n+1) sc (.itec op ql qr i j) (.IfExp (.Compare el [op] [er] p0) (.Constant (.int i) k1 p1) (.Constant (.int j) k2 p2) pos):=by
 intro env f fs A ad st s k Q hE hs hA R e p;have e:JrS (ev F C n) op ql qr i j st k=true:=e;refine wpAny_IfExp (wpAny_isTrue_Compare1 (hl hE hs hA.down R e fun ad1 st1 s1 v1 d1 R1 x1 i1 e1=>?_) hm);refine hr hE hs hA.down R1 e1 fun ad2 st2 s2 v2 d2 R2 x2 i2 e2=>?_;refine Jf fun n1G=>?_;split at e2
 · rename_i d hd;have p2:=p.step (x1.trans R1 x2) R2;refine n1G ?_;clear n1G;refine JhD (n:=n+1) op R2 hd (i1.mono x2.kept.tup x2.pre) i2 A _ hA fun s3 v3 R3 x3 i3=>?_;refine Jf fun n2G=>?_;obtain⟨r,h1,h2⟩:=Ja5 e2;have key:=Jbr (P:=fun v r=>∃ b,v=Value.bool b∧∀ ad h u,(∃ t,u=Value.int (if b then i else j) t)→Je c.ν ad h r u) (fun v r r' im ⟨b,q1,q2⟩=>⟨b,q1,fun ad h u z=>im ad h u (q2 ad h u z)⟩)
    (fun dm x r _ e v hx=>by
     cases x with
     | bool b =>
      obtain rfl:=Jp e;have hx:v=.bool b:=hx;refine⟨b,hx,fun ad h u ⟨t,hu⟩=>⟨t,?_⟩⟩;rw[hu]; cases b <;> rfl
     | _=>cases e) 8 R3.dom h1 i3
   obtain⟨b,rfl,z⟩:=key;refine n2G ?_;clear n2G;refine wpAny_truthy_bool ?_;refine Jf fun n3G=>?_;have p3:=p2.step x3 R3
   cases b with
   | true =>
    exact n3G (wpAny_Constant_int (p3 _ st2 _ _ r R3 (.quiet rfl rfl rfl rfl) (z _ _ _ ⟨_,rfl⟩) h2))
   | false =>
    exact n3G (wpAny_Constant_int (p3 _ st2 _ _ r R3 (.quiet rfl rfl rfl rfl) (z _ _ _ ⟨_,rfl⟩) h2))
 · exact ff e2
def HPr (c:Jx)(F:FT')(n:Nat)(sc:Scope)(qs:List QE)(ks:List (Option Expr))(vs:List Expr):Prop :=
 ∀ ⦃env:Env⦄ ⦃f:JH⦄ ⦃fs:List JH⦄ ⦃A:Around⦄ ⦃ad:List Addr⦄ ⦃st:St⦄ ⦃s:Shared⦄ ⦃k:List D→St→Bool⦄ ⦃Q:List (Value×Value)→Shared→Prop⦄ ⦃pos:Pos⦄,JY env f→f.sc=sc→Jz A n→Jk c ad (f::fs) st s.heap →
  (ev F C n).Es qs st k=true→(∀ ad' st' s' ps ds,Jk c ad' (f::fs) st' s'.heap→JN ad (f::fs) s ad' s'→Je.goL c.ν ad' s'.heap ds (ps.flatMap fun p=>[p.1,p.2])→ds.length=qs.length→k ds st'=true→Q ps s') →
  wpAny (model c.prog c.w) A (evalPairs (pairTrees ks vs env pos)) Q (fun _ _=>False) s
theorem Jqz:HPr c F (n+1) sc [] [] []:=by
 intro env f fs A ad st s k Q pos hE hs hA R e p;exact evalPairs_nil (p ad st s [] [] R (.refl _ _ _) rfl rfl e)
theorem Jn5 {qk qv:QE}{qs:List QE}{ek ev':Expr}{ks:List (Option Expr)}{vs:List Expr}(hk:HE c F (n+1) sc qk ek)(hv:HE c F n sc qv ev')(hr:HPr c F n sc qs ks vs):HPr c F (n+2) sc (qk::qv::qs) (some ek::ks) (ev'::vs):=by
 intro env f fs A ad st s k Q pos hE hs hA R e p;have e:(ev F C (n+1)).E qk st (fun d st=>(ev F C n).E qv st fun d2 st=>(ev F C n).Es qs st fun l st=>k (d::d2::l) st)=true:=e;have hA1:Jz A (n+1):=hA.le (by exact Nat.le_succ _);have hA2:Jz A n:=hA.le (by exact Nat.le_add_right _ _);refine evalPairs_cons (hk hE hs hA1 R e fun ad1 st1 s1 v1 d1 R1 x1 i1 e1=>?_);refine wpAny_bind (hv hE hs hA2 R1 e1 fun ad2 st2 s2 v2 d2 R2 x2 i2 e2=>wpAny_bind (wpAny_standAt (wpAny_pure ?_)));refine hr hE hs hA2 R2 e2 fun ad3 st3 s3 ps ds R3 x3 i3 len e3=>?_;have x23:=x2.trans R2 x3;exact p _ _ _ ((v1,v2)::ps) (d1::d2::ds) R3 (x1.trans R1 x23) ⟨v1,_,rfl,i1.mono x23.kept.tup x23.pre,v2,_,rfl,i2.mono x3.kept.tup x3.pre,i3⟩ (by simp[len]) e3
set_option tactic.hygienic true in
theorem JjW {acc:List (D×D)}{k v:D}{r l:List (D×D)}(e:Jb6 acc ((k,v)::r)=some l):∃ a,Jb7 acc k v=some a∧Jb6 a r=some l:=by
 simp only[Jb6] at e;split at e
 · rename_i a q; exact⟨a,q,e⟩
 · exact fo e
theorem JjF {k v:D}:∀ {l l':List (D×D)},Jb7 l k v=some l'→l'.length≤l.length+1
 | [],_,e=>by cases e; simp
 | (_,_)::l,_,e=>by
  rcases Jci e with ⟨_,rfl⟩ | ⟨_,r',q2,rfl⟩
  · simp
  · have:=JjF q2; simp; omega
set_option tactic.hygienic true in
theorem JfX {k0:Nat}:∀ {l:List (D×D)},Jes l=some k0→∀ p∈l,JcF p.1=some k0
 | [],_,_,hp=>nomatch hp
 | (k,v)::r,e,p,hp=>by
  cases r with
  | nil =>
   have e:JcF k=some k0:=e
   cases List.mem_singleton.mp hp
   exact e
  | cons q r =>
   simp only[Jes] at e;split at e
   · rename_i a b h1 h2;split at e
     · rename_i z;obtain rfl:=Jp e;rw[Jaw] at z;have z:=of_decide_eq_true z;rcases List.mem_cons.mp hp with rfl | hp
       · exact h1
       · exact JfX (z ▸ h2) p hp
     · exact fo e
   · exact fo e
theorem JgO {d:Addr}{k v:Value}{r:List (Value×Value)}{M:Model}{A:Around}{E:Value→Shared→Prop}{s:Shared}{Q:PUnit→Shared→Prop}
  (h:wpAny M A (dictSet d k v) (fun _ s1=>wpAny M A (storeAll d r) Q E s1) E s):wpAny M A (storeAll d ((k,v)::r)) Q E s:=by
 unfold storeAll;rw[List.forIn_cons];exact wpAny_bind (wpAny_bind (wpAny_mono h (fun _ s1 q=>wpAny_pure q) fun _ _ q=>q))
theorem JeV {a:Addr}{k0:Nat}{ad:List Addr}{A:Around}(hA:A.units+32<cLine):∀ {ps:List (Value×Value)}{ds:List D}{acc l:List (D×D)}{s:Shared}{Q:PUnit→Shared→Prop},Je.goL c.ν ad s.heap ds (ps.flatMap fun p=>[p.1,p.2]) →
  JL c.prog c.w c.ν c.clsA ad s.heap a (.dict k0 acc)→(∀ p∈Jbv ds,JcF p.1=some k0)→Jb6 acc (Jbv ds)=some l→acc.length+ds.length≤1000 →
  (∀ h' tk,Heap.SameBut a s.heap h'→JaB s.heap h'→JL c.prog c.w c.ν c.clsA ad h' a (.dict k0 l)→Q ⟨⟩ { s with heap:=h',toks:=tk })→wpAny (model c.prog c.w) A (storeAll a ps) Q (fun _ _=>False) s
 | [],ds,acc,l,s,Q,g,o,kk,pa,len,q=>by
  refine Jf fun n1G=>?_;have g:Je.goL c.ν ad s.heap ds []:=g
  cases ds with
  | nil =>
   obtain rfl:=Jp pa;refine n1G ?_;clear n1G;unfold storeAll;rw[List.forIn_nil];exact wpAny_pure (q s.heap s.toks (Heap.SameBut.refl _ _) (.refl _) o)
  | cons d ds=>obtain⟨_,_,e,_⟩:=g; cases e
 | (k,v)::ps,ds,acc,l,s,Q,g,o,kk,pa,len,q=>by
  refine Jf fun n2G=>?_;have g:Je.goL c.ν ad s.heap ds (k::v::ps.flatMap fun p=>[p.1,p.2]):=g
  cases ds with
  | nil=>have g:_=[]:=g; cases g
  | cons dk ds =>
   obtain⟨_,_,e,hk,g⟩:=g
   cases e
   cases ds with
   | nil=>have g:_=[]:=g; cases g
   | cons dv ds =>
    obtain⟨_,_,e,hv,g⟩:=g
    cases e
    have pa:Jb6 acc ((dk,dv)::Jbv ds)=some l:=pa;have kk:∀ p∈(dk,dv)::Jbv ds,JcF p.1=some k0:=kk;obtain⟨a1,h1,h2⟩:=JjW pa;have l1:=JjF h1;simp only[List.length_cons] at len;refine n2G ?_;clear n2G;refine JgO (JfS o (kk _ (.head _)) (by omega) h1 hk hv hA fun h' tk sb o'=>?_);have kp:=Jar o.there sb;refine JeV hA (s:={ s with heap:=h',toks:=tk }) (ds:=ds) (Je.monoL kp.tup (fun _ _ e=>e) g) o' (fun p hp=>kk p (.tail _ hp)) h2 (by omega) fun h'' tk' sb' k' o''=>?_;exact q h'' tk' (sb.trans sb') (kp.trans k') o''
theorem JqS {qs:List QE}{ks:List (Option Expr)}{vs:List Expr}(h:HPr c F n sc qs ks vs)(hall:ks.all (·.isSome)=true)(hlen:ks.length=vs.length)(h15:ks.length≤15)(hql:qs.length≤30)(h0:ks=[]→qs=[]):HE c F (n+1) sc (.dict qs) (.Dict ks vs pos):=by
 intro env f fs A ad st s k Q hE hs hA R e p
 have e:(ev F C n).Es qs st (fun kl st=>match Jb6 [] (Jbv kl) with
  | some l=>match Jes (Jbv kl) with
   | some kd=>k (.obj st.n) (st.alloc (.dict kd l))
   | none=>false
  | none=>false)=true:=e
 have F0:=R.fresh (Jl s.heap);have k1:∀ b o,s.heap.get? b=some o→(s.heap.push { cls:=.type "dict",data:=.dict #[] }).get? b=some o:=fun _ _ e=>Heap.get?_push_of_some _ e;have emp:∀ ad,JL c.prog c.w c.ν c.clsA ad (s.heap.push { cls:=.type "dict",data:=.dict #[] }) s.heap.objs.size (.dict 3 []):=fun ad=>⟨rfl,Heap.DictOf.new _⟩;have R0:Jk c ad (f::fs) st (s.heap.push { cls:=.type "dict",data:=.dict #[] }):=R.grow k1;have X0:JN ad (f::fs) s ad { s with heap:=s.heap.push { cls:=.type "dict",data:=.dict #[] } }:=.grow k1 rfl rfl rfl
 have main:∀ {s1:Shared}{ad1 st1 ps ds},Jk c ad1 (f::fs) st1 s1.heap→JN ad (f::fs) { s with heap:=s.heap.push { cls:=.type "dict",data:=.dict #[] } } ad1 s1→Je.goL c.ν ad1 s1.heap ds (ps.flatMap fun p=>[p.1,p.2])→ds.length≤1000→(match Jb6 [] (Jbv ds) with
   | some l=>match Jes (Jbv ds) with
    | some kd=>k (.obj st1.n) (st1.alloc (.dict kd l))
    | none=>false
   | none=>false)=true→wpAny (model c.prog c.w) A (storeAll s.heap.objs.size ps) (fun _ s2=>Q (.ref s.heap.objs.size) s2) (fun _ _=>False) s1:=by
  intro s1 ad1 st1 ps ds R1 x1 g len e1
  cases hp:Jb6 [] (Jbv ds) with
  | none=>rw[hp] at e1; exact ff e1
  | some l =>
   rw[hp] at e1;obtain⟨kd,hkd,e1⟩:=onT e1;obtain⟨od,hod,hodx⟩:∃ od,(s.heap.push { cls:=.type "dict",data:=.dict #[] }).get? s.heap.objs.size=some od∧od={ cls:=.type "dict",data:=.dict #[] }:=⟨_,Heap.get?_push_size _ rfl,rfl⟩;obtain⟨y1,y2⟩:=x1.still R0 hod F0.1 F0.2.1;have o1:JL c.prog c.w c.ν c.clsA ad1 s1.heap s.heap.objs.size (.dict kd []):=by
    have:JL c.prog c.w c.ν c.clsA ad1 s1.heap s.heap.objs.size (.dict 3 []):=(emp ad).move (y1.trans hod.symm) x1.kept.tup x1.pre;exact this.rekind kd
   refine JeV (by have:=hA.units; omega) g o1 (JfX hkd) hp (by simpa using len) fun h' tk sb kp o'=>?_;have R2:Jk c ad1 (f::fs) st1 h':=R1.side y2 F0.2.1 F0.2.2 sb kp;have R3:Jk c (ad1++[s.heap.objs.size]) (f::fs) (st1.alloc (.dict kd l)) h':=R2.adopt y2 F0.2.1 F0.2.2 (o'.move rfl (JaB.refl _).tup (Pre.snoc _ _)) (fun _ _ e=>by cases e);have x2:JN ad (f::fs) s ad1 s1:=X0.trans R0 x1;have x3:JN ad (f::fs) s ad1 { s1 with heap:=h',toks:=tk }:=x2.side (Jl _) sb kp rfl rfl rfl;exact p _ _ _ _ _ R3 (x3.adopt (Jl _)) (JcB R1) e1
 cases ks with
 | nil =>
  have hvs:vs=[]:=List.length_eq_zero_iff.mp hlen.symm;subst hvs;refine wpAny_Dict_empty ?_;refine Jf fun n1G=>?_;have hq:=h0 rfl;subst hq
  cases n with
  | zero=>exact ff e
  | succ n =>
   have e:k (.obj st.n) (st.alloc (.dict 3 []))=true:=e;exact n1G (p _ _ _ _ _ (R0.adopt F0.1 F0.2.1 F0.2.2 (emp _) (fun _ _ e=>by cases e)) (X0.adopt (Jl _)) (JcB R) e)
 | cons k0 ks =>
  refine wpAny_Dict_any hall hlen (by exact fun h=>nomatch h) h15 ?_;exact h (s:={ s with heap:=s.heap.push { cls:=.type "dict",data:=.dict #[] } }) hE hs hA.down R0 e fun ad1 st1 s1 ps ds R1 x1 g len e1=>main R1 x1 g (by omega) e1
end
structure JcH (c:Jx)(K:Frag)(JB:List Addr)(mg mb:Str→Option Value):Prop where
 ng:c.h₀.Ns mainGlobals mg
 nb:c.h₀.Ns builtinsNs mb
 fn:∀ x f,JO G x=some (.fn f)→f<900→∃ fa,Js JB f=some fa∧mg x=some (.ref fa)∧keepIn K (.ref fa)=true
 cl:∀ x k,JO G x=some (.cls k)→∃ A0,Js c.clsA k=some A0∧mg x=some (.ref A0)∧keepIn K (.ref A0)=true
 bi:∀ x k,JO G x=some (.bi k)→mg x=none∧mb x=some (biV k)
 val:∀ x d,JO G x=some (.val d)→∃ v,mg x=some v∧Je c.ν c.ad₀ c.h₀ d v
 made:∀ k cl A0,Js C k=some cl→Js c.clsA k=some A0→makesIn K A0=true∧match cl.init with
  | some f=>∃ fa,Js JB f=some fa∧findIn K (.ref A0) "__init__"=some (some (.ref fa))∧typeIn K (.ref fa)=some (.type "function")
  | none=>findIn K (.ref A0) "__init__"=some (some (.builtin "object.__init__"))
 ka:∀ f fa,Js JB f=some fa→keepIn K (.ref fa)=true
def Jhy (c:Jx)(F:FT')(JB:List Addr)(n:Nat):Prop :=
 ∀ ⦃fi fa:Nat⦄,Js JB fi=some fa→∀ ⦃fs:List JH⦄,fs≠[]→∀ ⦃A:Around⦄ ⦃ad:List Addr⦄ ⦃st:St⦄ ⦃s:Shared⦄ ⦃ds:List D⦄ ⦃vals:List Value⦄ ⦃k:D→St→Bool⦄ ⦃Q:Value→Shared→Prop⦄,Jz A n→Jk c ad fs st s.heap→Je.goL c.ν ad s.heap ds vals →
  (ev F C n).call fi ds st k=true→JaY c ad fs s k Q→codeAny (model c.prog c.w) A (.call (.ref fa) ⟨vals,[]⟩) (Jh4 Q) s
theorem JX {pos:Pos}{env:Env}:∀ {es:List Expr},(∀ x∈es,JA x=true)→(backTo pos (starEach es env)).any (·.1)=false
 | [],_=>rfl
 | x::es,h=>by
  rw[JaO (h x (.head _))];show (false||(backTo pos (starEach es env)).any (·.1))=false;rw[JX fun y hy=>h y (.tail _ hy)]; rfl
theorem Jbk {M:Model}{A:Around}{E:Value→Shared→Prop}{s:Shared}{pos:Pos}{env:Env}{f:Value}{es:List Expr}{Q:Args→Shared→Prop}(hst:∀ x∈es,JA x=true)
  (h:wpAny M A (spliced (backTo pos (starEach es env))) (fun vs s'=>Q ⟨vs,[]⟩ s') E s):wpAny M A (evalArgs f true (backTo pos (starEach es env)) []) Q E s:=by
 cases es with
 | nil =>
  have h:wpAny M A (spliced []) (fun vs s'=>Q ⟨vs,[]⟩ s') E s:=h;show wpAny M A (evalArgs f true [] []) Q E s;unfold evalArgs;show wpAny M A (spliced [] >>= _) Q E s;refine wpAny_bind (wpAny_mono h (fun vs s1 q=>wpAny_bind (wpAny_pure ?_)) fun _ _ q=>q);refine wpAny_holding ?_;exact wpAny_bind (wpAny_pure (wpAny_bind (wpAny_pure (wpAny_pure q))))
 | cons x es =>
  rw[JaO (hst x (.head _))] at h ⊢;exact Calls.evalArgs_plain h
section
variable {c:Jx}{F:FT'}{n:Nat}{sc:Scope}{qa qb ql qr:QE}{ea eb el er:Expr}{pos:Pos}{K:Frag}{JB:List Addr}{mg mb:Str→Option Value}
theorem Jca (Gl:JcH c K JB mg mb){env:Env}{f:JH}(hE:JY env f){x:Str}(hx:f.sc.names.lookup x=some .globalImplicit)(hd:(x==("__debug__":Str))=false){v:Value}(hv:mg x=some v∨(mg x=none∧mb x=some v)){p0:Pos}
  {A:Around}{ad:List Addr}{fs:List JH}{st:St}{s:Shared} (R:Jk c ad fs st s.heap) {Q:Value→Shared→Prop} (q:Q v s):wpAny (model c.prog c.w) A (eval (.Name x p0) env) Q (fun _ _=>False) s:=by
 have hk:env.scope.kind=.function:=by rw[hE.sc]; exact hE.kind
 have hx':env.kindOf x=some .globalImplicit:=by unfold Env.kindOf; rw[hE.sc]; exact hx
 have ng:s.heap.Ns env.globals mg:=by rw[hE.gl]; exact Gl.ng.keeps R.base
 have nb:s.heap.Ns env.builtins mb:=by rw[hE.bl]; exact Gl.nb.keeps R.base
 refine Calls.Name_function_global hk hx' ?_ hd;rcases hv with hv | ⟨h1,h2⟩
 · exact Calls.loadGlobal_global ng hv q
 · exact Calls.loadGlobal_builtin ng h1 nb h2 q
theorem Jo5 {h h':Heap}(k:∀ b o,h.get? b=some o→h'.get? b=some o):JC h h':=fun a o e _=>k a o e
theorem Jq3 (Gl:JcH c K JB mg mb){x:Str}(hx:sc.names.lookup x=some .globalImplicit)(hd:(x==("__debug__":Str))=false){d:D}(hg:JO G x=some (.val d)):HE c F (n+1) sc (.const d) (.Name x pos):=by
 intro env f fs A ad st s k Q hE hs hA R e p;refine Jf fun n1G=>?_;subst hs;have e:k d st=true:=e;obtain⟨v,h1,h2⟩:=Gl.val x d hg;exact n1G (Jca Gl hE hx hd (.inl h1) R (p ad st s v d R (.refl _ _ _) (h2.mono (Jo5 R.base) R.root) e))
theorem Jqr (S:JcI c K JB)(Gl:JcH c K JB mg mb){x:Str}{p0:Pos}(hx:sc.names.lookup x=some .globalImplicit)(hd:(x==("__debug__":Str))=false){fi:Nat}(hg:JO G x=some (.fn fi))(hl:fi<900){qs:List QE}{es:List Expr}(hes:HEs c F n sc qs es)
  (hst:∀ x∈es,JA x=true) (hc:Jhy c F JB n):HE c F (n+1) sc (.call fi qs) (.Call (.Name x p0) es [] pos):=by
 intro env f fs A ad st s k Q hE hs hA R e p;refine Jf fun n1G=>?_;subst hs;have e:(ev F C n).Es qs st (fun ds st=>(ev F C n).call fi ds st k)=true:=e;obtain⟨fa,h1,h2,h3⟩:=Gl.fn x fi hg hl;refine n1G ?_;clear n1G;refine wpAny_Call_NameR (Jca Gl hE hx hd (.inl h2) R ?_);refine callWith_of (P:=K.In) (by rw[JX hst]; rfl) (keeps_K h3) (Jbk hst ?_);refine hes hE rfl hA.down R e fun ad1 st1 s1 vs ds R1 x1 i1 e1=>⟨S.kin.keeps R1.base,?_⟩;exact wpAny_call (codeAny_mono (hc h1 (by simp) hA.down R1 i1 e1 (p.step x1 R1)) fun r s' q=>by rcases r with _ | (_ | _ | _ | _) <;> first | exact q | exact q.elim)
theorem JeH (i:Nat)(h:Heap):∃ k,(k=Keeper.frame∨k=Keeper.machine∨k=Keeper.boundFrame)∧Looks (model c.prog c.w) h (keeperOf (biV i)) k:=by
 refine⟨.machine,.inr (.inl rfl),Looks.of_pure ?_⟩
 match i with
 | 0=>rfl
 | 1=>rfl
 | 2=>rfl
 | 3=>rfl
 | _+4=>rfl
theorem JDr (Gl:JcH c K JB mg mb){x:Str}{p0:Pos}(hx:sc.names.lookup x=some .globalImplicit)(hd:(x==("__debug__":Str))=false){i:Nat}(hg:JO G x=some (.bi i)){qs:List QE}{es:List Expr}(hes:HEs c F n sc qs es)(hst:∀ x∈es,JA x=true) :
  HE c F (n+1) sc (.bi i qs) (.Call (.Name x p0) es [] pos):=by
 intro env f fs A ad st s k Q hE hs hA R e p;subst hs;have e:(ev F C n).Es qs st (fun ds st=>JkI i ds st k)=true:=e;refine wpAny_Call_NameR (Jca Gl hE hx hd (.inr (Gl.bi x i hg)) R ?_);refine callWith_of (P:=fun _=>True) (by rw[JX hst]; rfl) (fun h _=>JeH i h) (Jbk hst ?_);refine hes hE rfl hA.down R e fun ad1 st1 s1 vs ds R1 x1 i1 e1=>⟨trivial,?_⟩;exact JBp (n:=n+1) R1 e1 i1 hA (p.step x1 R1)
theorem Jl1 {A:Around}{C:Addr}{vals:List Value}(h:Jz A (n+1)):Jz (A.under (.builtin "type.__call__" ⟨.ref C::vals,[]⟩)) n:=by
 refine⟨h.1,?_,?_⟩
 · rw[depth_under_make];have:=h.2.1;omega
 · rw[units_under_make];have:=h.2.2;omega
set_option tactic.hygienic true in
theorem JtE (S:JcI c K JB)(Gl:JcH c K JB mg mb)(hc:Jhy c F JB n){ci:Nat}{A0:Addr}(hA0:Js c.clsA ci=some A0){fs:List JH}(hfs:fs≠[]){A:Around}{ad:List Addr}{st:St}{s:Shared}{ds:List D}{vals:List Value}{k:D→St→Bool}{Q:Value→Shared→Prop}
  (hA:Jz A (n+1)) (R:Jk c ad fs st s.heap) (z:Je.goL c.ν ad s.heap ds vals) (e:Jfy C (ev F C n) ci ds st k=true) (p:JaY c ad fs s k Q):codeAny (model c.prog c.w) A (.call (.ref A0) ⟨vals,[]⟩) (Jh4 Q) s:=by
 unfold Jfy at e;split at e
 · rename_i cl hcl;obtain⟨hm,hi⟩:=Gl.made ci cl A0 hcl hA0;have X:K.In s.heap:=S.kin.keeps R.base;obtain⟨h,g,d,t,os⟩:=s;have k1:∀ b o,h.get? b=some o→(h.push emptyDict).get? b=some o:=fun _ _ e=>Heap.get?_push_of_some _ e;have k2:∀ b o,(h.push emptyDict).get? b=some o→((h.push emptyDict).push (instObj A0 h.objs.size)).get? b=some o:=fun _ _ e=>Heap.get?_push_of_some _ e;have k12:∀ b o,h.get? b=some o→((h.push emptyDict).push (instObj A0 h.objs.size)).get? b=some o:=fun b o e=>k2 b o (k1 b o e);have fr1:h.get? h.objs.size=none:=Jl h;have fr2:(h.push emptyDict).get? (h.objs.size+1)=none:=by have:=Jl (h.push emptyDict); rwa [Heap.size_push] at this
   have R1:Jk c (ad++[h.objs.size]) fs (st.alloc (.ns ci [])) (h.push emptyDict) :=
    R.alloc k1 fr1 ⟨emptyDict,#[],_,Heap.get?_push_size _ rfl,rfl,rfl,fun _ hp=>nomatch hp⟩ (fun _ _ e=>by cases e)
   have idx:(ad++[h.objs.size])[st.n]?=some h.objs.size:=by rw[← R.len,List.getElem?_append_right (Nat.le_refl _),Nat.sub_self]; rfl
   have at2:((h.push emptyDict).push (instObj A0 h.objs.size)).get? (h.objs.size+1)=some (instObj A0 h.objs.size):=by
    have:=Heap.get?_push_size (h.push emptyDict) (o:=instObj A0 h.objs.size) rfl
    rwa [Heap.size_push] at this
   have R2:Jk c ((ad++[h.objs.size])++[h.objs.size+1]) fs ((st.alloc (.ns ci [])).alloc (.inst ci st.n)) ((h.push emptyDict).push (instObj A0 h.objs.size)):=by
    refine R1.alloc k2 fr2 ⟨A0,h.objs.size,hA0,Pre.snoc _ _ _ _ idx,at2⟩ (fun kk d e=>?_)
    cases e
    refine⟨[],?_⟩;show (st.objs.put st.n (.ns ci [])).get st.n=_;rw[(JD.put_new _ R.dense).2,if_pos rfl]
   have X1:JN ad fs ⟨h,g,d,t,os⟩ ((ad++[h.objs.size])++[h.objs.size+1]) ⟨(h.push emptyDict).push (instObj A0 h.objs.size),g,d,t,os⟩:=by
    refine JN.adopt (JN.alloc (s:=⟨h,g,d,t,os⟩) (s':=⟨(h.push emptyDict).push (instObj A0 h.objs.size),g,d,t,os⟩) k12 fr1 rfl rfl rfl) ?_;show h.get? (h.objs.size+1)=none
    cases q:h.get? (h.objs.size+1) with
    | none=>rfl
    | some o=>have:=k1 _ _ q; rw[fr2] at this; cases this
   have me:Je c.ν ((ad++[h.objs.size])++[h.objs.size+1]) ((h.push emptyDict).push (instObj A0 h.objs.size)) (.obj (Nat.succ st.n)) (.ref (h.objs.size+1)):=JcB (s:=⟨h.push emptyDict,g,d,t,os⟩) (st:=st.alloc (.ns ci [])) R1;have Y:=makes_of (M:=model c.prog c.w) X hm;split at e
   · rename_i fi hin;rw[hin] at hi;obtain⟨fa,i1,i2,i3⟩:=hi;refine make_core Y (looks_findIn X i2) (fun self=>bind_fn X self i3) (.inl rfl) ?_;have zz:Je.goL c.ν ((ad++[h.objs.size])++[h.objs.size+1]) ((h.push emptyDict).push (instObj A0 h.objs.size)) (.obj (Nat.succ st.n)::ds) (.ref (h.objs.size+1)::vals) :=
      ⟨_,_,rfl,me,Je.monoL (JaB.of_all k12).tup X1.pre z⟩
     refine codeAny_mono (hc i1 hfs (Jl1 hA) R2 zz e (Q:=fun v s'=>v=.none∧Q (.ref (h.objs.size+1)) s') fun ad' st' s' v r R' x' i' e'=>?_) fun r s' q=>?_
     · cases r with
       | none =>
        refine⟨i',?_⟩;exact p _ _ s' _ _ R' (X1.trans R2 x') (me.mono x'.kept.tup x'.pre) e'
       | _=>exact ff e'
     · rcases r with _ | (_ | _ | _ | v) <;> first | exact q.elim | exact q
   · rename_i hin;rw[hin] at hi;have hi:findIn K (.ref A0) "__init__"=some (some (.builtin "object.__init__")):=hi
     cases ds with
     | nil =>
      have z:vals=[]:=z;subst z;refine make_core Y (looks_findIn X hi) (fun self=>Looks.of_pure (oi_bind self)) (.inr ⟨rfl,rfl⟩) ?_;have t1:Looks (model c.prog c.w) ((h.push emptyDict).push (instObj A0 h.objs.size)) (typeOf (.ref (h.objs.size+1))) (.ref A0):=(Looks.ld at2).andThen .now;have t2:Looks (model c.prog c.w) ((h.push emptyDict).push (instObj A0 h.objs.size)) (isInstance (.ref (h.objs.size+1)) (.type "object")) true:=t1.andThen (Y.top.keeps k12);refine codeAny_call_builtin oi_plain entry_oi (@check_slot (model c.prog c.w) _ _ _ "object.__init__" "object" "__init__" (.ref (h.objs.size+1)) [] [] _ oi_kind oi_split t2 (oi_args (.ref (h.objs.size+1))) ?_);rw[oi_run];exact wpAny_pure (And.intro rfl (p _ _ _ _ _ R2 X1 me e))
     | cons _ _=>exact ff e
 · exact ff e
theorem JtF (S:JcI c K JB)(Gl:JcH c K JB mg mb){x:Str}{p0:Pos}(hx:sc.names.lookup x=some .globalImplicit)(hd:(x==("__debug__":Str))=false){ci:Nat}(hg:JO G x=some (.cls ci)){qs:List QE}{es:List Expr}(hes:HEs c F n sc qs es)
  (hst:∀ x∈es,JA x=true) (hc:Jhy c F JB n):HE c F (n+1) sc (.new ci qs) (.Call (.Name x p0) es [] pos):=by
 intro env f fs A ad st s k Q hE hs hA R e p;refine Jf fun n1G=>?_;subst hs;have e:(ev F C n).Es qs st (fun ds st=>Jfy C (ev F C n) ci ds st k)=true:=e;obtain⟨A0,h1,h2,h3⟩:=Gl.cl x ci hg;refine n1G ?_;clear n1G;refine wpAny_Call_NameR (Jca Gl hE hx hd (.inl h2) R ?_);refine callWith_of (P:=K.In) (by rw[JX hst]; rfl) (keeps_K h3) (Jbk hst ?_);refine hes hE rfl hA.down R e fun ad1 st1 s1 vs ds R1 x1 i1 e1=>⟨S.kin.keeps R1.base,?_⟩;exact wpAny_call (codeAny_mono (JtE S Gl hc h1 (by simp) hA R1 i1 e1 (p.step x1 R1)) fun r s' q=>by rcases r with _ | (_ | _ | _ | _) <;> first | exact q | exact q.elim)
end
theorem Jmt:Jw (fun cl:Cls=>Jw (fun p:Nat×Nat=>Nat.ble 3 p.1) cl.mth) C=true:=by decide +kernel
theorem Jrm {α:Type}{l:List α}{n:Nat}{x:α}(e:Js l n=some x):x∈l:=by
 rw[JG] at e; exact List.mem_of_getElem? e
theorem JvC {k:Nat}{cl:Cls}(hc:Js C k=some cl){x f:Nat}(e:lkp cl.mth x=some f):3≤x:=by
 have h1:=Jn Jmt cl (Jrm hc);exact Nat.ble_eq.mp (Jn h1 (x,f) (JaD e))
theorem Ju5:Js NT 997=none:=by decide +kernel
theorem JeW {name:Str}{x:Nat}(e:Je0 NT name=x):(x=0∧name="append")∨(x=1∧name="pop")∨(x=2∧name="get")∨(3≤x∧Js NT (x - 3)=some name)∨x=1000:=by
 rcases bm e with ⟨q,e⟩ | ⟨_,e⟩
 · exact .inl ⟨e.symm,Jbl q⟩
 · rcases bm e with ⟨q,e⟩ | ⟨_,e⟩
   · exact .inr (.inl ⟨e.symm,Jbl q⟩)
   · rcases bm e with ⟨q,e⟩ | ⟨_,e⟩
     · exact .inr (.inr (.inl ⟨e.symm,Jbl q⟩))
     · cases q:JbO NT name 3 with
       | none=>rw[q] at e; exact .inr (.inr (.inr (.inr e.symm)))
       | some n =>
        rw[q] at e;have e:n=x:=e;subst e;obtain⟨j,rfl,h2⟩:=JfA q;exact .inr (.inr (.inr (.inl ⟨Nat.le_add_right _ _,by rw[Nat.add_sub_cancel_left]; exact h2⟩)))
theorem Jni {name:Str}{x:Nat}(e:Je0 NT name=x)(h:3≤x){nm:Str}(hx:Js NT (x - 3)=some nm):nm=name:=by
 rcases JeW e with ⟨q,_⟩ | ⟨q,_⟩ | ⟨q,_⟩ | ⟨_,q⟩ | q
 · subst q; exact absurd h (by decide)
 · subst q; exact absurd h (by decide)
 · subst q; exact absurd h (by decide)
 · exact sjt hx q
 · subst q;rw[show 1000 - 3=997 from rfl,Ju5] at hx;exact fo hx
theorem JeL {name:Str}{x:Nat}(e:Je0 NT name=x)(h:x<3):(x=0∧name="append")∨(x=1∧name="pop")∨(x=2∧name="get"):=by
 rcases JeW e with q | q | q | ⟨q,_⟩ | q
 · exact .inl q
 · exact .inr (.inl q)
 · exact .inr (.inr q)
 · exact absurd h (Nat.not_lt.mpr q)
 · subst q; exact absurd h (by decide)
theorem JqW {pos:Pos}{env:Env}{es:List Expr}(hst:∀ x∈es,JA x=true)(hl:es.length≤20):methodCallForm (es.length+([]:List Keyword).length) (backTo pos (starEach es env)) (backToKw pos (keywordEach [] env))=true:=by
 unfold methodCallForm;have h1:(backTo pos (starEach es env)).all (fun x=>!x.1)=true:=by
  have:=JX (pos:=pos) (env:=env) hst;rw[List.any_eq_false] at this;rw[List.all_eq_true];intro x hx
  simpa using this x hx
 have h2:decide (es.length+([]:List Keyword).length+(if (backToKw pos (keywordEach [] env)).isEmpty=true then 0 else 1)<30)=true:=by
  rw[decide_eq_true_iff];show es.length+0+0<30;omega
 rw[h1,h2];rfl
theorem Jmp {prog:Program}{w:World}{A:Around}{s:Shared}{o:Expr}{name:Str}{apos pos:Pos}{es:List Expr}{env:Env}{Q:Value→Shared→Prop}(hs:Jdf o=true)(hst:∀ x∈es,JA x=true)(hlen:es.length≤20)(hline:(apos.endLine==pos.line)=true)
  (h:wpAny (model prog w) A (eval o env) (fun ov s₁=>∀ pl,wpAny (model prog w) A (getMethod ov name pl) (fun p s₂=>wpAny (model prog w) A (callWith pos p.1 p.2 (backTo pos (starEach es env)) []) Q (fun _ _=>False) s₂) (fun _ _=>False) s₁) (fun _ _=>False) s) :
  wpAny (model prog w) A (eval (.Call (.Attribute o name apos) es [] pos) env) Q (fun _ _=>False) s:=by
 rw[arm_eval_Call];refine wpAny_bind (Jlk hs (wpAny_mono h (fun ov s₁ h₁=>wpAny_bind (wpAny_standAt ?_)) fun _ _ q=>q));unfold methodCall;rw[JqW hst hlen];refine wpAny_bind (wpAny_holding ?_);show wpAny _ _ (getMethod ov name _) _ _ _;refine wpAny_mono (h₁ _) (fun p s₂ h₂=>?_) fun _ _ q=>q;obtain⟨f,first⟩:=p;refine wpAny_bind (m:=methodCallPos true o env apos pos) ?_;have:methodCallPos true o env apos pos=pure pos:=by unfold methodCallPos; simp[hline]
 rw[this];exact wpAny_pure h₂
section
variable {c:Jx}{F:FT'}{n:Nat}{sc:Scope}{qa qb ql qr:QE}{ea eb el er:Expr}{pos:Pos}{K:Frag}{JB:List Addr}{mg mb:Str→Option Value}
theorem Ja2 (id:String)(h:Heap):∃ k,(k=Keeper.frame∨k=Keeper.machine∨k=Keeper.boundFrame)∧Looks (model c.prog c.w) h (keeperOf (.builtin id)) k:=⟨.machine,.inr (.inl rfl),Looks.of_pure rfl⟩
theorem JeN {prog:Program}{w:World}{h:Heap}{ad:List Addr}{ν:Vl}{cA:List Addr}{a:Addr}{o:Jo}(x:JL prog w ν cA ad h a o)(hi:∀ k d,o≠.inst k d)(hn:∀ k l,o≠.ns k l):∃ ob,h.get? a=some ob∧ob.dict=none:=by
 have one:∀ {K:Type} [DecidableEq K] {knd:PySem.KeyKind prog w K}{kvs:List (K×Value)},h.DictOf knd a kvs→∃ ob,h.get? a=some ob∧ob.dict=none:=by
  intro K _ knd kvs ⟨ob,es,ep,ho,hx,_⟩;exact⟨ob,ho,hx.2.1⟩
 have two:∀ {xs:List (IT×Addr×Value)},h.DictOfH (Jan prog w) a xs→∃ ob,h.get? a=some ob∧ob.dict=none:=by
  intro xs ⟨ob,es,ep,ho,hx,_⟩;exact⟨ob,ho,hx.2.1⟩
 cases o with
 | inst k d=>exact absurd rfl (hi k d)
 | ns k l=>exact absurd rfl (hn k l)
 | list t l=>obtain⟨items,v1,v2,⟨m,g1⟩,_⟩:=x; exact⟨_,g1,rfl⟩
 | dict k l =>
  match k with
  | 0=>obtain⟨_,a1,_⟩:=x; exact one a1
  | 1=>obtain⟨_,a1,_⟩:=x; exact one a1
  | 2=>obtain⟨_,a1,_⟩:=x; exact two a1
  | m+3=>exact one x.2
 | sdict l=>obtain⟨_,kvs,h1,_⟩:=x; exact one h1
 | idict l=>obtain⟨k0,kvs,h1,_⟩:=x; exact one h1
 | cdict l=>obtain⟨_,_,_,a1,_⟩:=x; exact two a1
variable {ad:List Addr}{fs:List JH}{st:St}{s:Shared}
theorem JmK (R:Jk c ad fs st s.heap){i t:Nat}{l:List D}(g:st.objs.get i=some (.list t l)){d:D}{k:D→St→Bool}(hs:JU l=true)(e:k .none (st.set i (.list t (l++[d])))=true){a:Addr}(ha:ad[i]?=some a){v:Value}(hv:Je c.ν ad s.heap d v)
  {A:Around}{Q:Value→Shared→Prop} (p:JaY c ad fs s k Q):wpAny (model c.prog c.w) A (call (.builtin "list.append") [.ref a,v]) Q (fun _ _=>False) s:=by
 refine Jf fun n1G=>?_;obtain⟨a',h1,h2,_⟩:=R.objs _ _ g;obtain rfl:=sjt ha h1;have P:=h2.there;obtain⟨items,v1,v2,g1,g2,g3,g4⟩:=h2;have len:=Jy hs;have n1:=Jm g4;have ni:items.size=v1.length+l.length:=by rw[← Array.length_toList,g2,List.length_append,n1]
 have n2:v1.length≤100000:=by
  unfold Jac at g3;split at g3
  · subst g3;simp
  · exact g3.2.1
 have ma:a∈ad:=List.mem_iff_getElem?.mpr ⟨_,ha⟩;refine n1G ?_;clear n1G;refine wpAny_list_append_plain g1 (fun h' hl sb=>?_) (by rw[ni,sizeLine_eq]; omega);have kp:=Jar P sb;have oi:JL c.prog c.w c.ν c.clsA ad h' a (.list t (l++[d])):=⟨_,v1,v2++[v],hl,by rw[Array.toList_push,g2,List.append_assoc],g3.mono kp.tup,Je.monoL kp.tup (fun _ _ e=>e) (JbN g4 ⟨v,[],rfl,hv,rfl⟩)⟩;exact p ad _ _ .none .none (R.upd g ha sb rfl oi (fun _ _ e=>by cases e) (fun _ _ e=>by cases e)) (.upd (s':={ s with heap:=h' }) R ma sb rfl rfl rfl) rfl e
theorem Jic {ν:Vl}{h:Heap}{l:List D}{vs:List Value}{d:D}{r:List D}(x:Je.goL ν ad h l vs)(e:l.reverse=d::r):∃ u ws,vs=ws++[u]∧Je ν ad h d u∧Je.goL ν ad h r.reverse ws:=by
 have y:=JbU x;rw[e] at y;obtain⟨u,w,h1,h2,h3⟩:=y;refine⟨u,w.reverse,?_,h2,JbU h3⟩;have:=congrArg List.reverse h1;rw[List.reverse_reverse,List.reverse_cons] at this;exact this
theorem JtU (R:Jk c ad fs st s.heap){i:Nat}{l:List D}(g:st.objs.get i=some (.list 0 l)){d:D}{r:List D}{k:D→St→Bool}(hr:l.reverse=d::r)(hs:JU l=true)(e:k d (st.set i (.list 0 r.reverse))=true){a:Addr}(ha:ad[i]?=some a)
  {A:Around}{Q:Value→Shared→Prop} (p:JaY c ad fs s k Q):wpAny (model c.prog c.w) A (call (.builtin "list.pop") [.ref a]) Q (fun _ _=>False) s:=by
 refine Jf fun n1G=>?_;obtain⟨a',h1,h2,_⟩:=R.objs _ _ g;obtain rfl:=sjt ha h1;have P:=h2.there;obtain⟨items,v1,v2,⟨m,g1⟩,g2,g3,g4⟩:=h2;have g3:v1=[]:=g3;subst g3;have g2:items.toList=v2:=g2;have len:=Jy hs;have n1:=Jm g4;obtain⟨u,ws,rfl,q2,q3⟩:=Jic g4 hr;have ni:items.size=ws.length+1:=by rw[← Array.length_toList,g2]; simp
 have nl:ws.length+1=l.length:=by rw[← n1]; simp
 have ma:a∈ad:=List.mem_iff_getElem?.mpr ⟨_,ha⟩;have hy:items[items.size - 1]?=some u:=by
  rw[← Array.getElem?_toList,g2,ni];simp
 refine n1G ?_;clear n1G;refine call_meets F.slot_list_pop ⟨_,g1,rfl⟩ F.entry_list_pop (F.args_list_pop_1 _) (PySem.MeetsSeq.list_pop_last a items m u hy (by rw[ni,sizeLine_eq]; omega)) ⟨g1,?_⟩;refine Jf fun n2G=>?_;obtain⟨n',hd'⟩:=Obj.data_mapSeq (o:={ cls:=.type "list",data:=.seq items m }) rfl (fun xs=>xs.eraseIdxIfInBounds (items.size - 1));have e2:=Heap.get?_update_self (Obj.mapSeq (fun xs=>xs.eraseIdxIfInBounds (items.size - 1))) g1 (Obj.isFreed_of_seq hd');have sb:Heap.SameBut a s.heap (s.heap.update a (Obj.mapSeq fun xs=>xs.eraseIdxIfInBounds (items.size - 1))):=Heap.SameBut.update ..;have kp:=Jar P sb;have hl:(s.heap.update a (Obj.mapSeq fun xs=>xs.eraseIdxIfInBounds (items.size - 1))).PlainList a (items.eraseIdxIfInBounds (items.size - 1)):=⟨n',by rw[e2,← hd']; rfl⟩;have oi:JL c.prog c.w c.ν c.clsA ad (s.heap.update a (Obj.mapSeq fun xs=>xs.eraseIdxIfInBounds (items.size - 1))) a (.list 0 r.reverse) :=
  ⟨_,[],ws,hl,by rw[Array.toList_eraseIdxIfInBounds,g2,ni,Nat.add_sub_cancel,List.eraseIdx_append_of_length_le (Nat.le_refl _),Nat.sub_self]; simp,rfl,Je.monoL kp.tup (fun _ _ e=>e) q3⟩
 exact n2G (p ad _ _ u d (R.upd g ha sb rfl oi (fun _ _ e=>by cases e) (fun _ _ e=>by cases e)) (.upd (s':={ s with heap:=s.heap.update a (Obj.mapSeq fun xs=>xs.eraseIdxIfInBounds (items.size - 1)) }) R ma sb rfl rfl rfl) (q2.mono kp.tup fun _ _ e=>e) e)
theorem JrE (R:Jk c ad fs st s.heap){i:Nat}{ds:List D}{k:D→St→Bool}(e:JfK i ds st k=true){a:Addr}(ha:ad[i]?=some a){vals:List Value}(z:Je.goL c.ν ad s.heap ds vals){A:Around}(hA:Jz A n){Q:Value→Shared→Prop}(p:JaY c ad fs s k Q) :
  wpAny (model c.prog c.w) A (call (.builtin "dict.get") (.ref a::vals)) Q (fun _ _=>False) s:=by
 refine Jf fun n1G=>?_;have core:∀ {dflt:D}{dv:Value}{x:D}{key:Value}{rest:List Value},Je c.ν ad s.heap dflt dv→Je c.ν ad s.heap x key→kO (Jd8 (JoO st i dflt) st.dom .none x) st k=true →
   (∀ ov,Jbq c s a key ov→∀ Q:Value→Shared→Prop,(∀ k,Q (ov.getD dv) { s with toks:=k })→s.TypeIs (.ref a) "dict"∧argsOk "dict.get" ⟨.ref a::key::rest,[]⟩∧∃ S,MeetsIn c.prog c.w (Builtin.«dict.get» ⟨.ref a::key::rest,[]⟩) S∧S A (wants Q (fun _ _=>False)) s) →
   wpAny (model c.prog c.w) A (call (.builtin "dict.get") (.ref a::key::rest)) Q (fun _ _=>False) s:=by
  intro dflt dv x key rest hd hx e1 fin;obtain⟨r,h1,h2⟩:=Ja5 e1;obtain⟨y,q,h1⟩:=odO h1;have hx':=Jfs 4 R.dom q hx;obtain⟨ov,f1,f2⟩:=Jcc (P:=fun _ key r=>∃ ov,Jbq c s a key ov∧Je c.ν ad s.heap r (ov.getD dv)) (fun v u r r' im ⟨ov,f1,f2⟩=>⟨ov,f1,im _ _ _ f2⟩)
   (fun dm x0 y0 r0 ok e0 v0 u0 _ hu=>by
    obtain⟨a',ov,h1,h2,h3⟩:=Jrg R ok e0 hu hd;obtain rfl:=sjt ha h1;exact⟨ov,h2,h3⟩) R.dom h1 (show Je c.ν ad s.heap .none .none from rfl) hx'
  obtain⟨t1,t2,S,t3,t4⟩:=fin ov f1 Q fun k=>Jaq R f2 fun s' v R' x' i'=>p ad st s' v r R' x' i' h2;exact call_meetsIn F.slot_dict_get t1 F.entry_dict_get t2 t3 t4
 cases ds with
 | nil=>exact ff e
 | cons d1 ds =>
  cases ds with
  | nil =>
   obtain⟨key,_,rfl,hx,z⟩:=z;have z:_=[]:=z;subst z;exact n1G (core (show Je c.ν ad s.heap .none .none from rfl) hx e fun ov f Q q=>f.get1 hA.units q)
  | cons d2 ds =>
   cases ds with
   | nil =>
    obtain⟨key,_,rfl,hx,dv,_,rfl,hd,z⟩:=z;have z:_=[]:=z;subst z;exact n1G (core hd hx e fun ov f Q q=>f.get2 hA.units q)
   | cons _ _=>exact ff e
end
section
variable {prog:Program}{w:World}{K:Type}[DecidableEq K]{knd:HeapKind prog w K}{A:Around}{E:Value→Shared→Prop}{s:Shared}
theorem JeF {α β:Type}(f:α→β):∀ (l:List α) (j:Nat),(l.eraseIdx j).map f=(l.map f).eraseIdx j
 | [],_=>rfl
 | _::_,0=>rfl
 | x::l,j+1=>by simp[List.eraseIdx,JeF f l j]
theorem Jh1 {d a:Addr}{xs:List (K×Addr×Value)}{k:K}{Q:Option DictEntry→Shared→Prop}(hu:knd.room A)(hkey:knd.is s.heap k a)(hm:s.heap.DictOfH knd d xs){j:Nat}{p:Addr×Value}(hj:xs[j]?=some (k,p))
  (hQ:∀ h' e,e.val=p.2→h'.DictOfH knd d (xs.eraseIdx j)→Heap.SameBut d s.heap h'→Q (some e) { s with heap:=h',toks:=s.toks+knd.draws k }) (hsz:xs.length≤sizeLine):wpAny (model prog w) A (Builtin.Dict.takeOut d (.ref a)) Q E s:=by
 refine Jf fun n1G=>?_;obtain⟨o,es,ep,ho,hc,hd,he,his,hn⟩:=hm;refine n1G ?_;clear n1G;unfold Builtin.Dict.takeOut
 try with_reducible refine wpAny_holding ?_
 refine wpAny_bind (knd.pyHash hu hkey ?_);refine wpAny_bind (wpAny_dictFind_heap (s:={ s with toks:=s.toks+knd.draws k }) hu hkey ho hd he his hn (fun hno=>absurd hj (hno j p)) fun j' p' hj'=>?_);refine Jf fun n2G=>?_;obtain rfl:j'=j:=idxH_unique hn hj' hj;rw[hj] at hj'; cases hj';refine n2G ?_;clear n2G;refine wpAny_bind (wpAny_dictEntries (s:={ s with toks:=s.toks+knd.draws k }) ho hd ?_);have he':es[j']?=some (entryOfKey knd (k,p)):=by rw[entry_at he j',hj]; rfl
 rw[he'];have hs2:=size_of_entries he;refine wpAny_bind (wpAny_updateDictKeys (hz:=by omega) (s:={ s with toks:=s.toks+knd.draws k }) ho hd (wpAny_pure (hQ _ (entryOfKey knd (k,p)) rfl ⟨_,_,ep+1,Heap.get?_update_self _ ho (Obj.isFreed_of_dict (Obj.data_mapDictKeys hd _)),
   hc.mapDictKeys _,Obj.data_mapDictKeys hd _,?_,?_,?_⟩ (Heap.SameBut.update ..))))
 · rw[Array.toList_eraseIdxIfInBounds,he];exact (JeF _ _ _).symm
 · intro x hx;exact knd.keeps (his x (List.mem_of_mem_eraseIdx hx)) ho hd (Heap.SameBut.update ..)
 · rw[JeF];exact hn.sublist (List.eraseIdx_sublist ..)
theorem JhU {d a:Addr}{xs:List (K×Addr×Value)}{k:K}{Q:Value→Shared→Prop}(hu:knd.room A.in1)(hkey:knd.is s.heap k a)(hm:s.heap.DictOfH knd d xs){j:Nat}{p:Addr×Value}(hj:xs[j]?=some (k,p))
  (hQ:∀ h' t,h'.DictOfH knd d (xs.eraseIdx j)→Heap.SameBut d s.heap h'→Q p.2 { s with heap:=h',toks:=t }) (hsz:xs.length≤sizeLine):wpAny (model prog w) A (call (.builtin "dict.pop") [.ref d,.ref a]) Q E s:=by
 refine call_meetsIn PySem.F.slot_dict_pop hm.typeIs PySem.F.entry_dict_pop (PySem.F.args_dict_pop_2 _ _) (S:=fun A R s=>knd.room A.in1∧knd.is s.heap k a∧s.heap.DictOfH knd d xs∧∀ h' t,h'.DictOfH knd d (xs.eraseIdx j)→Heap.SameBut d s.heap h'→R (.ok (.ret p.2)) { s with heap:=h',toks:=t }) (.of_wp fun A R s ⟨hu,hkey,hm,h⟩=>?_) ⟨hu,hkey,hm,fun h' t a b=>hQ h' t a b⟩;refine Jf fun n1G=>?_;obtain⟨o,es,ep,ho,hc,hd,he,his,hn⟩:=id hm;refine n1G ?_;clear n1G;unfold Builtin.«dict.pop»;refine wpAny_bind ?_;unfold Builtin.Dict.keyAndDefault;refine wpAny_bind (wpAny_notOrdered_dict hm.typeIs ?_);show wpAny _ _ (pure (d,Value.ref a,(none:Option Value))) _ _ s;refine wpAny_pure ?_;have ne:es.isEmpty=false:=by
  have h1:=size_of_entries he;have h2:=(List.getElem?_eq_some_iff.mp hj).1;rw[Array.isEmpty_eq_false_iff];intro q; subst q; simp at h1; omega
 have key:(keyPart (Value.ref a)).isSome=false:=rfl;simp only[key,Bool.false_eq_true,if_false];refine wpAny_bind (wpAny_dictEntries ho hd ?_)
 first | refine wpAny_bind (wpAny_pure ?_) | skip
 simp only[ne,Bool.false_eq_true,if_false];refine wpAny_bind (Jh1 hu hkey hm hj (fun h' e hv hm' hs'=>?_) hsz);simp only[Option.isNone_some,Bool.false_eq_true,if_false];exact wpAny_bind (wpAny_letGo (wpAny_pure ⟨e.val,rfl,by rw[hv]; exact h _ _ hm' hs'⟩))
end
section
variable {c:Jx}{n:Nat}{ad:List Addr}{fs:List JH}{st:St}{s:Shared}
theorem Jm7 {A:Around}(hA:Jz A n):A.in1.units+20<cLine:=by
 have:=hA.units;show A.units+_+20<cLine;omega
theorem JrR {x:D}{q:IT}(hx:IT.of c.ν x=some q){h:Heap}:∀ {l:List (D×D)}{xs:List (IT×Addr×Value)}{d:D}{r:List (D×D)},Jaa c.ν ad h l xs→JeY l x=some (d,r)→∃ j p,xs[j]?=some (q,p)∧Je c.ν ad h d p.2∧Jaa c.ν ad h r (xs.eraseIdx j)
 | [],_,d,r,_,e=>by cases e
 | (k,v)::l,xs,d,r,⟨y,a,u,xs',h1,h2,h3,h4⟩,e=>by
  refine Jf fun n1G=>?_;subst h2
  rcases ob3 (show (match eqK k x with
   | some true=>some (v,l)
   | some false=>match JeY l x with | some (d,r')=>some (d,(k,v)::r') | none=>none
   | none=>none)=some (d,r) from e) with ⟨hk,e⟩ | ⟨hk,e⟩ | ⟨_,e⟩
  · obtain⟨rfl,rfl⟩:=Prod.mk.inj (Jp e);have:y=q:=of_decide_eq_true (JdK h1 hx hk);subst this;exact n1G ⟨0,(a,u),rfl,h3,h4⟩
  · cases hr:JeY l x with
    | none=>rw[hr] at e; exact fo e
    | some p =>
     obtain⟨d',r'⟩:=p;rw[hr] at e;obtain⟨rfl,rfl⟩:=Prod.mk.inj (Jp e);obtain⟨j,p,g1,g2,g3⟩:=JrR hx h4 hr;exact n1G ⟨j+1,p,g1,g2,⟨y,a,u,_,h1,rfl,h3,g3⟩⟩
  · exact fo e
inductive JMp (st:St)(i:Nat)(ds:List D)(k:D→St→Bool):Prop
 | mk (x:D) (l:List (D×D)) (v:D) (r:List (D×D)) (m:List D) (h1:ds=[x]) (g:st.objs.get i=some (.dict 2 l)) (h2:x=.tup m) (s1:Jw (itD 6) m=true) (s2:JU l=true) (hr:JeY l (.tup m)=some (v,r)) (e:k v (st.set i (.dict 2 r))=true)
theorem Ji5 {i:Nat}{ds:List D}{k:D→St→Bool}(e:Jd6 i ds st k=true):JMp st i ds k:=by
 cases ds with
 | nil=>exact ff e
 | cons x ds =>
  cases ds with
  | cons _ _=>exact ff e
  | nil =>
   unfold Jd6 at e;dsimp only at e
   cases g:st.objs.get i with
   | none=>rw[g] at e; exact ff e
   | some o =>
    rw[g] at e
    cases o with
    | dict kd l =>
     match kd with
     | 2 =>
      cases x with
      | tup m =>
       obtain⟨hs,e⟩:=bmT e;obtain⟨s1,s2⟩:=Ja.mp hs;have e:(match JeY l (.tup m) with | some (v,r)=>k v (st.set i (.dict 2 r)) | none=>false)=true:=e
       cases hr:JeY l (.tup m) with
       | none=>rw[hr] at e; exact ff e
       | some p=>rw[hr] at e; exact⟨_,l,p.1,p.2,m,rfl,g,rfl,s1,s2,hr,e⟩
      | _=>exact ff e
     | 0=>exact ff e
     | 1=>exact ff e
     | _+3=>exact ff e
    | _=>exact ff e
theorem JkE (R:Jk c ad fs st s.heap){i:Nat}{ds:List D}{k:D→St→Bool}(e:Jd6 i ds st k=true){a:Addr}(ha:ad[i]?=some a){vals:List Value}(z:Je.goL c.ν ad s.heap ds vals){A:Around}(hA:Jz A n){Q:Value→Shared→Prop}(p:JaY c ad fs s k Q) :
  wpAny (model c.prog c.w) A (call (.builtin "dict.pop") (.ref a::vals)) Q (fun _ _=>False) s:=by
 refine Jf fun n1G=>?_;obtain⟨x,l,v,r,m,rfl,g,rfl,s1,s2,hr,e2⟩:=Ji5 e;obtain⟨key,_,rfl,hx,z⟩:=z;have z:_=[]:=z;subst z;obtain⟨q,b,rfl,hq,hi⟩:=Jgn s1 hx;obtain⟨a',h1,h2,_⟩:=R.objs _ _ g;obtain rfl:=sjt ha h1;have P:=h2.there;obtain⟨xs,g1,g2⟩:=h2;obtain⟨j,pv,j1,j2,j3⟩:=JrR hq g2 hr;have len:=Jy s2;have ma:a∈ad:=List.mem_iff_getElem?.mpr ⟨_,ha⟩;refine n1G ?_;clear n1G;refine JhU (knd:=Jan c.prog c.w) (Jm7 hA) hi g1 j1 (fun h' t hm sb=>?_) (by rw[Jdh g2,sizeLine_eq]; omega);have kp:=Jar P sb;have oi:JL c.prog c.w c.ν c.clsA ad h' a (.dict 2 r):=⟨_,hm,j3.mono kp.tup fun _ _ e=>e⟩;exact p ad _ _ pv.2 v (R.upd g ha sb rfl oi (fun _ _ e=>by cases e) (fun _ _ e=>by cases e)) (.upd (s':={ s with heap:=h',toks:=t }) R ma sb rfl rfl rfl) (j2.mono kp.tup fun _ _ e=>e) e2
end
section
variable {c:Jx}{F:FT'}{n:Nat}{sc:Scope}{qa qb ql qr:QE}{ea eb el er:Expr}{pos:Pos}{K:Frag}{JB:List Addr}{mg mb:Str→Option Value}
theorem JlY (S:JcI c K JB){ad:List Addr}{fs:List JH}{st:St}{s:Shared}(R:Jk c ad fs st s.heap){i k d:Nat}(g:st.objs.get i=some (.inst k d)){a:Addr}(ha:ad[i]?=some a){cl:Cls}(hcl:Js C k=some cl){x fi:Nat}(hm:lkp cl.mth x=some fi){name:Str}(hx:Je0 NT name=x)
  {A:Around}{pl:Sem Bool}{Q:Value×List Value→Shared→Prop} (q:∀ fa,Js JB fi=some fa→Q (.ref fa,[.ref a]) s):wpAny (model c.prog c.w) A (getMethod (.ref a) name pl) Q (fun _ _=>False) s:=by
 refine Jf fun n1G=>?_;obtain⟨A0,dx,l,o,es,ep,h1,h2,h3,h4,h5,h6,h7,I⟩:=JhY R g ha;obtain⟨A1,z1,Z⟩:=S.cls _ _ hcl;obtain rfl:=sjt h1 z1;have ge:=JvC hcl hm;obtain⟨nm,fa,y1,y2,y3,y4,y5⟩:=Z.mth (x - 3) fi (by rw[show x - 3+3=x by omega]; exact hm);have:nm=name:=Jni hx ge y1;subst this;have miss:lkp l (x - 3)=none:=by
  cases q:lkp l (x - 3) with
  | none=>rfl
  | some d' =>
   obtain⟨cl',e1,e2⟩:=h7 _ (JaD q);obtain rfl:=sjt hcl e1;rw[y5] at e2; cases e2
 have f:=JdE S.nt y1 h6;rw[miss] at f;have f:es.toList.find? (·.key.isStr nm)=none:=f;have look:lookIn nm o=some none:=by
  unfold lookIn; rw[h5]; dsimp only; rw[f]; dsimp only;rw[if_neg];rw[Jcl h6]; decide
 refine n1G ?_;clear n1G;exact method_fn (S.kin.keeps R.base) I Z.ga Z.gt y3 y4 (by unfold shadowIn; dsimp only; rw[look]; rfl) (q fa y2)
theorem Jdb {name:Str}{x:Nat}(hx:Je0 NT name=x){qs:List QE}{es:List Expr}(hes:HEs c F n sc qs es)(hst:∀ x∈es,JA x=true){env:Env}{f:JH}{fs:List JH}{A:Around}{ad1:List Addr}{st1:St}{s1:Shared}{k:D→St→Bool}{Q:Value→Shared→Prop}(hE:JY env f)(hsc:f.sc=sc)(hA:Jz A (n+1))(R1:Jk c ad1 (f::fs) st1 s1.heap){i:Nat}{a:Addr}(hi:ad1[i]?=some a){pl:Sem Bool}(p1:JaY c ad1 (f::fs) s1 k Q){o:Jo}(g:st1.objs.get i=some o)(n1:∀ k d,o≠.inst k d)(n2:∀ k l,o≠.ns k l)(hT:s1.TypeIs (.ref a) "dict")
  (e2:(match Nat.beq x 2 with | true=>(ev F C n).Es qs st1 (fun ds st=>JfK i ds st k) | false=>match Nat.beq x 1 with | true=>(ev F C n).Es qs st1 (fun ds st=>Jd6 i ds st k) | false=>false)=true):wpAny (model c.prog c.w) A (getMethod (.ref a) name pl) (fun p s₂=>wpAny (model c.prog c.w) A (callWith pos p.1 p.2 (backTo pos (starEach es env)) []) Q (fun _ _=>False) s₂) (fun _ _=>False) s1:=by
 refine Jf fun n1G=>?_;obtain⟨a',h1,h2,_⟩:=R1.objs _ _ g;obtain rfl:=sjt hi h1;rcases bm e2 with ⟨z,e2⟩ | ⟨_,e2⟩
 · have z:=nbq z;rcases JeL hx (by rw[z]; decide) with ⟨q,_⟩ | ⟨q,_⟩ | ⟨_,hn⟩
   · exact absurd (q.symm.trans z) (by decide)
   · exact absurd (q.symm.trans z) (by decide)
   · subst hn;refine n1G ?_;clear n1G;refine getMethod_builtin hT PySem.F.plainAttrs_dict PySem.F.slot_dict_get PySem.F.type_dict_get (fun b eb=>by cases eb; exact JeN h2 n1 n2) ?_;refine callWith_of (P:=fun _=>True) (by rw[JX hst]; rfl) (fun h _=>Ja2 _ h) (Jbk hst ?_);refine hes hE hsc hA.down R1 e2 fun ad2 st2 s2 vs ds R2 x2 i2 e3=>⟨trivial,?_⟩;exact JrE (n:=n+1) R2 e3 (x2.pre _ _ hi) i2 hA (p1.step x2 R2)
 · obtain⟨z,e2⟩:=bmT e2;have z:=nbq z;rcases JeL hx (by rw[z]; decide) with ⟨q,_⟩ | ⟨_,hn⟩ | ⟨q,_⟩
   · exact absurd (q.symm.trans z) (by decide)
   · subst hn;refine n1G ?_;clear n1G;refine getMethod_builtin hT PySem.F.plainAttrs_dict PySem.F.slot_dict_pop PySem.F.type_dict_pop (fun b eb=>by cases eb; exact JeN h2 n1 n2) ?_;refine callWith_of (P:=fun _=>True) (by rw[JX hst]; rfl) (fun h _=>Ja2 _ h) (Jbk hst ?_);refine hes hE hsc hA.down R1 e2 fun ad2 st2 s2 vs ds R2 x2 i2 e3=>⟨trivial,?_⟩;exact JkE (n:=n+1) R2 e3 (x2.pre _ _ hi) i2 hA (p1.step x2 R2)
   · exact absurd (q.symm.trans z) (by decide)
theorem Jk7 {i t:Nat}{l ds:List D}{st:St}{k:D→St→Bool}(e:Jel i t l 0 ds st k=true):E1 (fun d=>ds=[d]∧JU l=true) fun d=>k .none (st.set i (.list t (l++[d])))=true:=by
 cases ds with
 | nil=>exact ff e
 | cons d ds =>
  cases ds with
  | nil=>obtain⟨h,e⟩:=bmT e; exact⟨d,⟨rfl,h⟩,e⟩
  | cons _ _=>exact ff e
theorem Jp6 {i t:Nat}{l ds:List D}{st:St}{k:D→St→Bool}(e:Jel i t l 1 ds st k=true):E2 (fun d r=>(ds=[]∧t=0)∧JU l=true) (fun d r=>l.reverse=d::r) fun d r=>k d (st.set i (.list 0 r.reverse))=true:=by
 cases t with
 | succ _=>exact ff e
 | zero =>
  cases ds with
  | cons _ _=>exact ff e
  | nil =>
   obtain⟨h,e⟩:=bmT e
   cases q:l.reverse with
   | nil=>rw[q] at e; exact ff e
   | cons d r=>rw[q] at e; exact⟨d,r,⟨⟨rfl,rfl⟩,h⟩,rfl,e⟩
theorem Jmk {name:Str}{x:Nat}(hx:Je0 NT name=x){qs:List QE}{es:List Expr}(hes:HEs c F n sc qs es)(hst:∀ x∈es,JA x=true){env:Env}{f:JH}{fs:List JH}{A:Around}{ad1:List Addr}{st1:St}{s1:Shared}{k:D→St→Bool}{Q:Value→Shared→Prop}(hE:JY env f)(hsc:f.sc=sc)(hA:Jz A (n+1))(R1:Jk c ad1 (f::fs) st1 s1.heap){i:Nat}{a:Addr}(hi:ad1[i]?=some a){pl:Sem Bool}(p1:JaY c ad1 (f::fs) s1 k Q){t:Nat}{l:List D}(g:st1.objs.get i=some (.list t l))
  (e1:(match Nat.ble x 1 with | true=>(ev F C n).Es qs st1 (fun ds st=>match st.objs.get i with | some (.list t m)=>Jel i t m x ds st k | _=>false) | false=>false)=true):wpAny (model c.prog c.w) A (getMethod (.ref a) name pl) (fun p s₂=>wpAny (model c.prog c.w) A (callWith pos p.1 p.2 (backTo pos (starEach es env)) []) Q (fun _ _=>False) s₂) (fun _ _=>False) s1:=by
 refine Jf fun n1G=>?_;obtain⟨a',h1,h2,_⟩:=R1.objs _ _ g;obtain rfl:=sjt hi h1;obtain⟨hle,e1⟩:=bmT e1;have hle:=Nat.ble_eq.mp hle;have hT:s1.TypeIs (.ref a) "list":=by obtain⟨items,v1,v2,g1,_⟩:=h2; exact g1.isList.typeIs
 have nd:=JeN h2 (fun _ _ e=>by cases e) (fun _ _ e=>by cases e);rcases JeL hx (Nat.lt_of_le_of_lt hle (by decide)) with ⟨q,hn⟩ | ⟨q,hn⟩ | ⟨q,hn⟩
 · subst hn;refine n1G ?_;clear n1G;refine getMethod_builtin hT PySem.F.plainAttrs_list PySem.F.slot_list_append PySem.F.type_list_append (fun b eb=>by cases eb; exact nd) ?_;refine callWith_of (P:=fun _=>True) (by rw[JX hst]; rfl) (fun h _=>Ja2 _ h) (Jbk hst ?_);refine hes hE hsc hA.down R1 e1 fun ad2 st2 s2 vs ds R2 x2 i2 e2=>⟨trivial,?_⟩;refine Jf fun n2G=>?_;rw[q] at e2;obtain⟨t2,m2,g2,e2,_⟩:=lgT e2;obtain⟨d,⟨rfl,hs2⟩,e3⟩:=Jk7 e2;obtain⟨v,_,rfl,hv,z⟩:=i2;have z:_=[]:=z;subst z;exact n2G (JmK R2 g2 hs2 e3 (x2.pre _ _ hi) hv (p1.step x2 R2))
 · subst hn;refine n1G ?_;clear n1G;refine getMethod_builtin hT PySem.F.plainAttrs_list PySem.F.slot_list_pop PySem.F.type_list_pop (fun b eb=>by cases eb; exact nd) ?_;refine callWith_of (P:=fun _=>True) (by rw[JX hst]; rfl) (fun h _=>Ja2 _ h) (Jbk hst ?_);refine hes hE hsc hA.down R1 e1 fun ad2 st2 s2 vs ds R2 x2 i2 e2=>⟨trivial,?_⟩;refine Jf fun n3G=>?_;rw[q] at e2;obtain⟨t2,m2,g2,e2,_⟩:=lgT e2;obtain⟨d,r,⟨⟨rfl,rfl⟩,hs2⟩,hr,e3⟩:=Jp6 e2;have z:vs=[]:=i2;subst z;exact n3G (JtU R2 g2 hr hs2 e3 (x2.pre _ _ hi) (p1.step x2 R2))
 · rw[q] at hle; exact absurd hle (by decide)
theorem JqI (S:JcI c K JB)(Gl:JcH c K JB mg mb)(ha:HE c F n sc qa ea)(hs:Jdf ea=true){name:Str}{x:Nat}(hx:Je0 NT name=x){qs:List QE}{es:List Expr}(hes:HEs c F n sc qs es)(hst:∀ x∈es,JA x=true)(hlen:es.length≤20)
  {apos:Pos} (hline:(apos.endLine==pos.line)=true) (hc:Jhy c F JB n):HE c F (n+1) sc (.meth qa x qs) (.Call (.Attribute ea name apos) es [] pos):=by
 intro env f fs A ad st s k Q hE hsc hA R e p;have e:(ev F C n).E qa st (fun o st=>match o with | .obj i=>Jf3 C (ev F C n) i x qs st k | _=>false)=true:=e;refine Jmp hs hst hlen hline (ha hE hsc hA.down R e fun ad1 st1 s1 v1 d1 R1 x1 i1 e1 pl=>?_);refine Jf fun n1G=>?_
 cases d1 with
 | obj i =>
  obtain⟨a,hi,rfl⟩:=i1;have p1:=p.step x1 R1;obtain⟨o,g,e1⟩:=ooT (show Jf3 C (ev F C n) i x qs st1 k=true from e1);have obj:E13 (fun a'=>ad1[i]?=some a') (fun a'=>JL c.prog c.w c.ν c.clsA ad1 s1.heap a' o) (fun a=>JdM o=true∨c.h₀.get? a=none):=R1.objs _ _ g;obtain⟨a',h1,h2,_⟩:=obj;obtain rfl:=sjt hi h1
  cases o with
  | inst kc d =>
   obtain⟨cl,hcl,e1⟩:=ocT e1;obtain⟨fi,hm,e1⟩:=onT e1;refine n1G ?_;clear n1G;refine JlY S R1 g hi hcl hm hx fun fa hfa=>?_;refine callWith_of (P:=K.In) (by rw[JX hst]; rfl) (keeps_K (Gl.ka _ _ hfa)) (Jbk hst ?_);refine hes hE hsc hA.down R1 e1 fun ad2 st2 s2 vs ds R2 x2 i2 e2=>⟨S.kin.keeps R2.base,?_⟩;have z:Je.goL c.ν ad2 s2.heap (.obj i::ds) (.ref a::vs):=⟨_,_,rfl,⟨a,x2.pre _ _ hi,rfl⟩,i2⟩;exact wpAny_call (codeAny_mono (hc hfa (by exact fun h=>nomatch h) hA.down R2 z e2 (p1.step x2 R2)) fun r s' q=>by rcases r with _ | (_ | _ | _ | _) <;> first | exact q | exact q.elim)
  | ns _ _=>exact ff e1
  | list t l =>
   exact n1G (Jmk hx hes hst hE hsc hA R1 hi p1 g e1)
  | dict kd l =>
   exact n1G (Jdb hx hes hst hE hsc hA R1 hi p1 g (fun _ _ e=>by cases e) (fun _ _ e=>by cases e) h2.dictT e1)
  | sdict l =>
   refine n1G ?_;clear n1G;exact Jdb hx hes hst hE hsc hA R1 hi p1 g (fun _ _ e=>by cases e) (fun _ _ e=>by cases e) (by obtain⟨_,kvs,z,_⟩:=h2; exact z.typeIs) e1
  | idict l =>
   refine n1G ?_;clear n1G;exact Jdb hx hes hst hE hsc hA R1 hi p1 g (fun _ _ e=>by cases e) (fun _ _ e=>by cases e) (by obtain⟨k0,kvs,z,_⟩:=h2; exact z.typeIs) e1
  | cdict l =>
   refine n1G ?_;clear n1G;exact Jdb hx hes hst hE hsc hA R1 hi p1 g (fun _ _ e=>by cases e) (fun _ _ e=>by cases e) (by obtain⟨_,_,_,h2,_⟩:=h2; exact Heap.DictOfH.typeIs h2) e1
 | _=>exact ff e1
end
section
variable {c:Jx}{F:FT'}{n:Nat}{sc:Scope}{qa qb qe qt:QE}{ea eb ee et:Expr}{pos:Pos}{K:Frag}{JB:List Addr}{mg mb:Str→Option Value}
theorem Jd2 {t e:Expr}(h:∀ ts k p,t=.Tuple ts k p→Jhn e=true)(h2:∀ ts p,t≠.List ts p)(env:Env):swappedStores [t] e env=pure none:=by
 cases t with
 | Tuple ts k p =>
  have:=h ts k p rfl
  cases e <;> first | rfl | cases this
 | List ts p=>exact absurd rfl (h2 ts p)
 | _=>rfl
theorem Jur {q:QT}{t:Expr}(he:HE c F n sc qe ee)(ha:HA c F n sc q t)(hc:JdI ee=true)(hstar:JA t=true)(hsw:∀ env,swappedStores [t] ee env=pure none):HS c F (n+1) sc (.asg q qe) (.Assign [t] ee pos):=by
 intro env f fs A ad st s k Q hE hs hA R e p;have e:(ev F C n).E qe st (fun d st=>(ev F C n).assign q d st fun st=>k .next st)=true:=e;refine wpAny_Assign_stores (he hE hs hA.down R e fun ad1 st1 s1 v1 d1 R1 x1 i1 e1=>?_) (JdN hc _ _ _) (hsw env);have es:(assignEach [t] env).map (·.2)=[fun v=>assign t env v]:=by cases t <;> first | rfl | cases hstar
 rw[es];exact ha hE hs hA.down R1 i1 e1 fun ad2 st2 s2 R2 x2 e2=>p _ _ _ _ .next R2 (x1.trans R1 x2) rfl e2
noncomputable def JDo (i:Nat)(op:Operator)(j:Int)(k:Fl→St→Bool)(b:D)(st:St):Bool:=match b with
 | .int (.lit b)=>match op with | .Add=>k .next (st.setLoc i (.int (.lit (Int.add j b)))) | _=>false
 | _=>false
theorem Jq7 {ih:Ev}{i:Nat}{op:Operator}{qe:QE}{st:St}{k:Fl→St→Bool}(e:JsQ ih i op qe st k=true):E1 (fun j=>lkp st.loc i=some (.int (.lit j))) fun j=>ih.E qe st (JDo i op j k)=true:=by
 refine Jf fun n1G=>?_;obtain⟨a,hl,e⟩:=odT e
 cases a with
 | int a =>
  cases a with
  | lit j =>
   exact n1G ⟨j,hl,e⟩
  | _=>exact ff e
 | _=>exact ff e
theorem JoJ {i:Nat}{op:Operator}{j:Int}{k:Fl→St→Bool}{b:D}{st:St}(e:JDo i op j k b st=true):E13 (fun j2=>b=.int (.lit j2)) (fun _=>op=.Add) fun j2=>k .next (st.setLoc i (.int (.lit (Int.add j j2))))=true:=by
 cases b with
 | int a =>
  cases a with
  | lit j2 =>
   cases op with
   | Add=>exact⟨j2,rfl,rfl,e⟩
   | _=>exact ff e
  | _=>exact ff e
 | _=>exact ff e
theorem Jus (nt:∀ x y nm,Js NT x=some nm→Js NT y=some nm→x=y){x:Str}{i:Nat}{p0:Pos}(hi:Js NT i=some x)(hk:sc.names.lookup x=some .local)(he:HE c F n sc qe ee){op:Operator}:HS c F (n+1) sc (.aug i op qe) (.AugAssign (.Name x p0) op ee pos):=by
 intro env f fs A ad st s k Q hE hs hA R e p;refine Jf fun n1G=>?_;have e:JsQ (ev F C n) i op qe st k=true:=e;subst hs;obtain⟨j,hl,e⟩:=Jq7 e;obtain⟨l,r,er,⟨m,hm,hl'⟩,_⟩:=R.frames
 cases er
 obtain⟨v,h1,t,rfl⟩:=(hl' i x _ hi hl).1 hk;have key:env.kindOf x=some .local:=by unfold Env.kindOf; rw[hE.sc]; exact hk
 have hkind:env.scope.kind=.function:=by rw[hE.sc]; exact hE.kind
 refine n1G ?_;clear n1G;refine wpAny_AugAssign_Name (wpAny_loadName_local hkind key (hE.L ▸ hm) h1 ?_);refine he hE rfl hA.down R e fun ad1 st1 s1 v1 d1 R1 x1 i1 e1=>?_;refine Jf fun n2G=>?_;obtain⟨j2,rfl,rfl,e2⟩:=JoJ e1;obtain⟨t2,rfl⟩:=i1;refine n2G ?_;clear n2G;refine PyProof.Rows.iadd_int ?_;refine Jf fun n3G=>?_;obtain⟨l2,r2,er2,⟨m2,hm2,hl2⟩,_⟩:=R1.frames
 cases er2
 refine n3G ?_;clear n3G;refine wpAny_storeName_local (m:=m2) key (hE.L ▸ hm2) (fun h' hn' sb=>?_) (by rw[hE.sc,hE.kind]; rfl);rw[hE.L] at hn' sb;have hv:Je c.ν ad1 s1.heap (.int (.lit (Int.add j j2))) (.int (IE.val c.ν (.lit j)+IE.val c.ν (.lit j2)) s1.toks):=⟨_,rfl⟩;exact p _ _ _ _ .next (R1.setLoc nt hi hk hm2 hn' sb hv) (x1.trans R1 (.setLoc (s':={ s1 with heap:=h',toks:=s1.toks+1+1 }) R1 sb rfl rfl rfl)) rfl e2
noncomputable def JaC (o:Obj):Prop:=o.cls=.type "list_iterator"∨o.cls=.type "tuple_iterator"∨o.cls=.type "range_iterator"
theorem JjI {M:Model}{A:Around}{E:Value→Shared→Prop}{s:Shared}{t:Expr}{it:Addr}{v:Value}{Q:Unit→Shared→Prop}{o:Obj}(ho:s.heap.get? it=some o)(hq:JaC o)(q:Q () s):wpAny M A (letOwnedTupleGo t (.ref it) v) Q E s:=by
 obtain⟨cls,dct,dt,sl⟩:=o;have hq:cls=.type "list_iterator"∨cls=.type "tuple_iterator"∨cls=.type "range_iterator":=hq;unfold letOwnedTupleGo
 cases t <;> first
  | exact wpAny_pure q
  | (cases v <;> first
    | exact wpAny_pure q
    | (refine wpAny_bind (wpAny_load ho ?_)
       rcases hq with rfl | rfl | rfl <;> (cases dt <;> exact wpAny_pure q)))
theorem JbE {A:Around}{R:Result→Shared→Prop}{t:Expr}{it:Addr}{body:List Stmt}{env:Env}(I:Nat→Shared→Prop)
  (turn:∀ m s,I m s→wpAny (model c.prog c.w) A (pyNext (.ref it)) (fun r s₁=>match r with
   | none=>R (.ok .next) s₁
   | some v=>(∃ o,s₁.heap.get? it=some o∧JaC o)∧wpAny (model c.prog c.w) A (assign t env v) (fun _ s₂=>wpAny (model c.prog c.w) A (execs body env) (fun f s₃=>match f with
     | .next=>∃ m',m'<m∧I m' s₃
     | .ret v=>R (.ok (.ret v)) s₃
     | _=>False) (fun _ _=>False) s₂) (fun _ _=>False) s₁) (fun _ _=>False) s)
  (m:Nat) {s:Shared} (h:I m s):codeAny (model c.prog c.w) A (.forLoop t (.ref it) body [] env) R s:=by
 refine codeAny_loop' rfl I (fun m s hI=>?_) m h;show wpAny _ _ ((forTurn t (.ref it) body [] env).onRaise (fun x=>do noteFrame x env; theTreesLotGoes x)) _ _ s
 refine wpAny_noted ?_;simp only[forTurn];refine wpAny_bind (wpAny_standAt (wpAny_bind (wpAny_onRaise (wpAny_mono (turn m s hI) (fun r s₁ h₁=>?_) fun _ _ h'=>h'.elim))))
 cases r with
 | none=>exact wpAny_pure (.inr ⟨rfl,codeAny_block (wpAny_execs_nil h₁)⟩)
 | some v =>
  obtain⟨⟨o,ho,hq⟩,h₁⟩:=h₁;refine wpAny_bind (JjI ho hq ?_);refine wpAny_bind (wpAny_mono h₁ (fun _ s₂ h₂=>wpAny_bind (wpAny_mono h₂ (fun f s₃ h₃=>?_) fun _ _ h'=>h'.elim)) fun _ _ h'=>h'.elim)
  cases f with
  | next=>exact wpAny_pure (.inl ⟨rfl,h₃⟩)
  | cont=>exact h₃.elim
  | brk=>exact h₃.elim
  | ret v=>exact wpAny_pure h₃
theorem J4 {h h':Heap}{it:Addr}{o:Obj}(ho:h.get? it=some o)(hq:JaC o){vs:Array Value}(hd:o.data=.fields vs)(sb:Heap.ExtBut it h h'):JaB h h':=fun b ob eb hb=>by
 refine Jf fun n1G=>?_;by_cases q:b=it
 · subst q;obtain rfl:=sjt ho eb;rcases hb with ⟨h1,xs,n,h2⟩ | ⟨v,h2⟩
   · rw[hd] at h2; cases h2
   · rw[hd] at h2; cases h2
 · exact n1G (sb b ob q eb)
inductive JtL (c:Jx)(n:Nat)(f:JH)(fs:List JH)(ad0:List Addr)(s0:Shared)(I:Addr)(P Q E:Nat→List D→List Addr→St→Prop)(m:Nat)(s':Shared):Prop where
 | mk (hm:m≤n) (ad':List Addr) (st':St) (l':List D) (j:Nat) (R:Jk c ad' (f::fs) st' s'.heap) (X:JN ad0 (f::fs) s0 ad' s') (hn:I ∉ ad') (p:P j l' ad' st') (q:Q j l' ad' st') (e:E j l' ad' st')
theorem Jom {q:QT}{t:Expr}{qs:List QS}{ss:List Stmt}(ht:∀ m,m<n→HA c F m sc q t)(hb:∀ m,m<n→HSs c F m sc qs ss){env:Env}{f:JH}{fs:List JH}{A:Around}{ad:List Addr}{st:St}{s:Shared}{k:Fl→St→Bool}{Q:Flow→Shared→Prop}
  (hE:JY env f) (hs:f.sc=sc) (hA:Jz A n) (R:Jk c ad (f::fs) st s.heap) {l:List D}{tp:Addr}{vs:List Value} (hT:s.heap.IsTuple tp vs.toArray) (z:Je.goL c.ν ad s.heap l vs)
  (e:(ev F C n).items q l qs st k=true) (p:JeX c ad (f::fs) s k Q):wpAny (model c.prog c.w) A (pyIter (.ref tp)) (fun it s2=>codeAny (model c.prog c.w) A (.forLoop t it ss [] env) (fun r s'=>match r with | .ok f=>Q f s' | .error _=>False) s2) (fun _ _=>False) s:=by
 refine wpAny_pyIter_tuple hT ?_;refine Jf fun n1G=>?_;have k1:∀ b o,s.heap.get? b=some o→(s.heap.push { cls:=.type "tuple_iterator",data:=.fields #[.ref tp,.int 0 0] }).get? b=some o:=fun _ _ e=>Heap.get?_push_of_some _ e;obtain⟨F1,F2,F3⟩:=R.fresh (Jl s.heap);have R1:Jk c ad (f::fs) st (s.heap.push { cls:=.type "tuple_iterator",data:=.fields #[.ref tp,.int 0 0] }):=R.grow k1;have X1:JN ad (f::fs) s ad { s with heap:=s.heap.push { cls:=.type "tuple_iterator",data:=.fields #[.ref tp,.int 0 0] } }:=.grow k1 rfl rfl rfl;refine n1G ?_;clear n1G;refine JbE (I:=fun m s'=>JtL c n f fs ad s s.heap.objs.size (fun i _ _ _=>s'.heap.IsTupleIter s.heap.objs.size tp i) (fun i l' ad' _=>Je.goL c.ν ad' s'.heap l' (vs.drop i)) (fun _ l' _ st'=>(ev F C m).items q l' qs st' k=true) m s') ?_ n
  ⟨Nat.le_refl _,ad,st,l,0,R1,X1,F1,⟨_,Heap.get?_push_size _ rfl,rfl,rfl⟩,Je.monoL (Jam _ _) (fun _ _ e=>e) z,e⟩
 rintro m s' ⟨hm,ad',st',l',i,R',X',hn',hit,z',e'⟩;refine Jf fun n2G=>?_
 cases m with
 | zero=>exact ff e'
 | succ m =>
  have hT':s'.heap.IsTuple tp vs.toArray:=X'.kept.tup.tuple hT;obtain⟨oi,ho,hc,hd⟩:=id hit;have hq:JaC oi:=.inr (.inl hc)
  cases l' with
  | nil =>
   have z':vs.drop i=[]:=z';have hx:vs.toArray[i]?=none:=by
    have:vs.length≤i:=List.drop_eq_nil_iff.mp z';simp[this]
   refine n2G ?_;clear n2G;refine wpAny_pyNext_tuple_end hA.1 hit hT' hx fun h' sb=>?_;have kp:=J4 ho hq hd sb;exact p ad' st' _ .next .next (R'.side' hn' F2 F3 sb kp) (X'.side' (s2:={ s' with heap:=h' }) (Jl _) sb kp rfl rfl rfl) rfl e'
  | cons d r =>
   have e':(ev F C m).assign q d st' (fun st=>(ev F C m).Ss qs st fun f st=>match f with | .next=>(ev F C m).items q r qs st k | .ret d=>k (.ret d) st)=true:=e';obtain⟨v,ws,hv,z1,z2⟩:=z';have hx:vs.toArray[i]?=some v:=by
    have:(vs.drop i)[0]?=some v:=by rw[hv]; rfl
    rw[List.getElem?_drop] at this
    simpa using this
   refine n2G ?_;clear n2G;refine wpAny_pyNext_tuple_item hit hT' hx fun h' hi' sb=>?_;refine Jf fun n3G=>?_;have kp:=J4 ho hq hd sb.extBut;have R2:Jk c ad' (f::fs) st' h':=R'.side hn' F2 F3 sb kp;have X2:JN ad (f::fs) s ad' { s' with heap:=h' }:=X'.side (Jl _) sb kp rfl rfl rfl;obtain⟨o2,ho2,hc2,hd2⟩:=id hi';refine n3G ?_;clear n3G;refine⟨⟨o2,ho2,.inr (.inl hc2)⟩,?_⟩;have hAm:Jz A m:=hA.le (by exact Nat.le_of_lt ‹_›);refine ht m (by assumption) (s:={ s' with heap:=h' }) hE hs hAm R2 (z1.mono kp.tup fun _ _ e=>e) e' fun ad3 st3 s3 R3 X3 e3=>?_;have X23:JN ad (f::fs) s ad3 s3:=X2.trans R2 X3;refine hb m (by assumption) hE hs hAm R3 e3 fun ad4 st4 s4 fl d4 R4 X4 i4 e4=>?_;refine Jf fun n4G=>?_;have X34:JN ad' (f::fs) { s' with heap:=h' } ad4 s4:=X3.trans R3 X4;obtain⟨y1,y2⟩:=X34.still R2 ho2 hn' F2
   cases d4 with
   | next =>
    have i4:fl=_:=i4;subst i4;refine n4G ?_;clear n4G;refine⟨m,Nat.lt_succ_self m,by exact Nat.le_of_lt ‹_›,ad4,st4,r,i+1,R4,X23.trans R3 X4,y2,⟨o2,y1,hc2,hd2⟩,?_,e4⟩;have:vs.drop (i+1)=ws:=by rw[← List.drop_drop,hv]; rfl
    rw[this];exact Je.monoL (kp.trans X34.kept).tup X34.pre z2
   | ret d =>
    obtain⟨u,rfl,i4⟩:=i4;exact n4G (p _ _ _ _ (.ret d) R4 (X23.trans R3 X4) ⟨u,rfl,i4⟩ e4)
theorem JqT {q:QT}{t:Expr}{qs:List QS}{ss:List Stmt}(ht:∀ m,m<n→HA c F m sc q t)(hb:∀ m,m<n→HSs c F m sc qs ss){env:Env}{f:JH}{fs:List JH}{A:Around}{ad:List Addr}{st:St}{s:Shared}{k:Fl→St→Bool}{Q:Flow→Shared→Prop}
  (hE:JY env f) (hs:f.sc=sc) (hA:Jz A n) (R:Jk c ad (f::fs) st s.heap) {i:Nat}{a:Addr} (ha:ad[i]?=some a)
  (e:(ev F C n).live q i 0 qs st k=true) (p:JeX c ad (f::fs) s k Q):wpAny (model c.prog c.w) A (pyIter (.ref a)) (fun it s2=>codeAny (model c.prog c.w) A (.forLoop t it ss [] env) (fun r s'=>match r with | .ok f=>Q f s' | .error _=>False) s2) (fun _ _=>False) s:=by
 refine Jf fun n1G=>?_;have isL:∃ items,s.heap.IsList a items:=by
  refine Jf fun n1G=>?_
  cases n with
  | zero=>exact ff e
  | succ n =>
   obtain⟨l,g,_⟩:=lsT (show Jgl (ev F C n) q i 0 qs st k=true from e);obtain⟨vs,g1,_⟩:=R.list0 g ha;exact n1G ⟨_,g1.isList⟩
 obtain⟨items0,hl0⟩:=isL;refine n1G ?_;clear n1G;refine wpAny_pyIter_list hl0 ?_;refine Jf fun n3G=>?_;have k1:∀ b o,s.heap.get? b=some o→(s.heap.push { cls:=.type "list_iterator",data:=.fields #[.ref a,.int 0 0] }).get? b=some o:=fun _ _ e=>Heap.get?_push_of_some _ e;obtain⟨F1,F2,F3⟩:=R.fresh (Jl s.heap);have R1:Jk c ad (f::fs) st (s.heap.push { cls:=.type "list_iterator",data:=.fields #[.ref a,.int 0 0] }):=R.grow k1;have X1:JN ad (f::fs) s ad { s with heap:=s.heap.push { cls:=.type "list_iterator",data:=.fields #[.ref a,.int 0 0] } }:=.grow k1 rfl rfl rfl;refine n3G ?_;clear n3G;refine JbE (I:=fun m s'=>JtL c n f fs ad s s.heap.objs.size (fun j _ _ _=>s'.heap.IsListIter s.heap.objs.size a j) (fun _ _ _ _=>True) (fun j _ _ st'=>(ev F C m).live q i j qs st' k=true) m s') ?_ n
  ⟨Nat.le_refl _,ad,st,[],0,R1,X1,F1,⟨_,Heap.get?_push_size _ rfl,rfl,rfl⟩,trivial,e⟩
 rintro m s' ⟨hm,ad',st',_,j,R',X',hn',hit,_,e'⟩;refine Jf fun n4G=>?_;refine Jf fun n2G=>?_
 cases m with
 | zero=>exact ff e'
 | succ m =>
  obtain⟨oi,ho,hc,hd⟩:=id hit;have hq:JaC oi:=.inl hc;have e':Jgl (ev F C m) q i j qs st' k=true:=e';obtain⟨l,g,e'⟩:=lsT e';obtain⟨vs,g1,g4⟩:=R'.list0 g (X'.pre _ _ ha);have n1:=Jm g4
  cases hx:Js l j with
  | none =>
   rw[hx] at e';rw[JG,List.getElem?_eq_none_iff] at hx;have hx':vs.toArray[j]?=none:=by rw[List.getElem?_toArray,List.getElem?_eq_none_iff,n1]; exact hx
   refine n2G ?_;clear n2G;refine n4G ?_;clear n4G;refine wpAny_pyNext_list_end hA.1 hit g1.isList hx' fun h' sb=>?_;have kp:=J4 ho hq hd sb;exact p ad' st' _ .next .next (R'.side' hn' F2 F3 sb kp) (X'.side' (s2:={ s' with heap:=h' }) (Jl _) sb kp rfl rfl rfl) rfl e'
  | some d =>
   rw[hx] at e';obtain⟨v,y1,y2⟩:=Jc4 g4 hx;have hx':vs.toArray[j]?=some v:=by rw[List.getElem?_toArray]; exact y1
   refine n2G ?_;clear n2G;refine n4G ?_;clear n4G;refine wpAny_pyNext_list_item hit g1.isList hx' fun h' hi' sb=>?_;refine Jf fun n5G=>?_;have kp:=J4 ho hq hd sb.extBut;have R2:Jk c ad' (f::fs) st' h':=R'.side hn' F2 F3 sb kp;have X2:JN ad (f::fs) s ad' { s' with heap:=h' }:=X'.side (Jl _) sb kp rfl rfl rfl;obtain⟨o2,ho2,hc2,hd2⟩:=id hi';refine n5G ?_;clear n5G;refine⟨⟨o2,ho2,.inl hc2⟩,?_⟩;have hAm:Jz A m:=hA.le (by exact Nat.le_of_lt ‹_›);have e':(ev F C m).assign q d st' (fun st=>(ev F C m).Ss qs st fun f st=>match f with | .next=>(ev F C m).live q i (Nat.succ j) qs st k | .ret d=>k (.ret d) st)=true:=e';refine ht m (by assumption) (s:={ s' with heap:=h' }) hE hs hAm R2 (y2.mono kp.tup fun _ _ e=>e) e' fun ad3 st3 s3 R3 X3 e3=>?_;have X23:JN ad (f::fs) s ad3 s3:=X2.trans R2 X3;refine hb m (by assumption) hE hs hAm R3 e3 fun ad4 st4 s4 fl d4 R4 X4 i4 e4=>?_;refine Jf fun n6G=>?_;refine Jf fun n3G=>?_;have X34:JN ad' (f::fs) { s' with heap:=h' } ad4 s4:=X3.trans R3 X4;obtain⟨y1,y2⟩:=X34.still R2 ho2 hn' F2
   cases d4 with
   | next =>
    have i4:fl=_:=i4;subst i4;exact n3G (n6G ⟨m,Nat.lt_succ_self m,by exact Nat.le_of_lt ‹_›,ad4,st4,[],j+1,R4,X23.trans R3 X4,y2,⟨o2,y1,hc2,hd2⟩,trivial,e4⟩)
   | ret d =>
    obtain⟨u,rfl,i4⟩:=i4;exact n3G (n6G (p _ _ _ _ (.ret d) R4 (X23.trans R3 X4) ⟨u,rfl,i4⟩ e4))
theorem Jcf {e:Expr}(h:JcD e=true)(env:Env)(x:Value):foldedSetIterable e env x=pure x:=by
 cases e <;> first | rfl | exact ff h
theorem JsX {q:QT}{t:Expr}{qs:List QS}{ss:List Stmt}(he:HE c F n sc qe ee)(hset:JcD ee=true)(ht:∀ m,m<n→HA c F m sc q t)(hb:∀ m,m<n→HSs c F m sc qs ss):HS c F (n+1) sc (.for_ q qe qs) (.For t ee ss [] pos):=by
 intro env f fs A ad st s k Q hE hs hA R e p
 have e:(ev F C n).E qe st (fun d st=>Je1 8 d st fun d st=>match d with
  | .tup l=>(ev F C n).items q l qs st k
  | .obj i=>(ev F C n).live q i 0 qs st k
  | _=>false)=true:=e
 refine wpAny_For (wpAny_mono (he hE hs hA.down R e (Q:=fun x s₁=>wpAny (model c.prog c.w) A (pyIter x) (fun it s2=>codeAny (model c.prog c.w) A (.forLoop t it ss [] env) (fun r s'=>match r with | .ok f=>Q f s' | .error _=>False) s2) (fun _ _=>False) s₁) fun ad1 st1 s1 v1 d1 R1 x1 i1 e1=>?_) (fun x s₁ h₁=>wpAny_mono h₁ (fun it s₂ h₂=>codeAny_mono h₂ fun r s' h=>by cases r <;> first | exact h | exact h.elim) fun _ _ q=>q) fun _ _ q=>q) (fun x=>Jcf hset env x)
 refine Jf fun n1G=>?_;obtain⟨d',st',h1,R',h2⟩:=JdX 8 R1 e1 i1;have p1:=p.step x1 R'
 cases d' with
 | tup l =>
  obtain⟨a,vs,rfl,t1,z1⟩:=h1.tup_inv;exact n1G (Jom ht hb hE hs hA.down R' t1 z1 h2 p1)
 | obj i =>
  obtain⟨a,ha,rfl⟩:=h1;exact n1G (JqT ht hb hE hs hA.down R' ha h2 p1)
 | _=>exact ff h2
theorem JnZ {qs:List QS}{ss:List Stmt}(ht:∀ m,m<n→HT c F m sc qt et)(hb:∀ m,m<n→HSs c F m sc qs ss):HS c F (n+1) sc (.whil qt qs) (.While et ss [] pos):=by
 intro env f fs A ad st s k Q hE hs hA R e p;have e:(ev F C n).loop qt qs st k=true:=e;refine wpAny_While ?_;refine codeAny_whileLoop (I:=fun m s'=>m≤n∧∃ ad' st',Jk c ad' (f::fs) st' s'.heap∧JN ad (f::fs) s ad' s'∧(ev F C m).loop qt qs st' k=true) ?_ n ⟨Nat.le_refl _,ad,st,R,.refl _ _ _,e⟩;rintro m s' ⟨hm,ad',st',R',X',e'⟩
 cases m with
 | zero=>exact ff e'
 | succ m =>
  have e':(ev F C m).T qt st' (fun c st=>match c with
   | true=>(ev F C m).Ss qs st fun f st=>match f with | .next=>(ev F C m).loop qt qs st k | .ret d=>k (.ret d) st
   | false=>k .next st)=true:=e'
  have hAm:Jz A m:=hA.le (by omega)
  refine wpAny_mono (ht m (by assumption) hE hs hAm R' e' (Q:=fun b s₂=>if b then wpAny (model c.prog c.w) A (execs ss env) (fun fl s₃=>match fl with
          | .next | .cont=>∃ m',m'<m+1∧m'≤n∧∃ ad' st',Jk c ad' (f::fs) st' s₃.heap∧JN ad (f::fs) s ad' s₃∧(ev F C m').loop qt qs st' k=true
          | .brk=>Q .next s₃
          | .ret v=>Q (.ret v) s₃) (fun _ _=>False) s₂
    else Q .next s₂) fun ad1 st1 s1 b R1 x1 e1=>?_) (fun b s₂ h₂=>?_) fun _ _ q=>q.elim
  · cases b with
    | true =>
     refine hb m (by assumption) hE hs hAm R1 e1 fun ad2 st2 s2 fl d2 R2 x2 i2 e2=>?_;have X2:=(X'.trans R' x1).trans R1 x2
     cases d2 with
     | next =>
      have i2:fl=_:=i2;subst i2;exact⟨m,Nat.lt_succ_self m,by exact Nat.le_of_lt ‹_›,ad2,st2,R2,X2,e2⟩
     | ret d =>
      obtain⟨u,rfl,i2⟩:=i2;exact p _ _ _ _ (.ret d) R2 X2 ⟨u,rfl,i2⟩ e2
    | false=>exact p _ _ _ _ .next R1 (X'.trans R' x1) rfl e1
  · cases b with
    | true=>exact wpAny_mono h₂ (fun fl s₃ h₃=>by cases fl <;> exact h₃) fun _ _ q=>q.elim
    | false=>exact wpAny_execs_nil h₂
end
section
variable {c:Jx}{F:FT'}{n:Nat}{sc:Scope}{qa qb qe qt:QE}{ea eb ee et:Expr}{pos:Pos}{K:Frag}{JB:List Addr}{mg mb:Str→Option Value}
theorem Jkt {N j:Nat}(h:j<N):(List.range N).drop j=j::(List.range N).drop (j+1):=by
 rw[List.drop_eq_getElem_cons (by simpa using h)];simp
theorem Jqc (Gl:JcH c K JB mg mb){x:Str}{p0 p1:Pos}(hx:sc.names.lookup x=some .globalImplicit)(hd:(x==("__debug__":Str))=false)(hg:JO G x=some (.bi 4))(he:HE c F n sc qe ee)(hst:JA ee=true){q:QT}{t:Expr}{qs:List QS}{ss:List Stmt}
  (ht:∀ m,m<n→HA c F m sc q t) (hb:∀ m,m<n→HSs c F m sc qs ss):HS c F (n+1) sc (.forr q qe qs) (.For t (.Call (.Name x p0) [ee] [] p1) ss [] pos):=by
 intro env f fs A ad st s k Q hE hs hA R e p;have e:(ev F C n).E qe st (fun d st=>match Jek d with | some N=>(ev F C n).items q ((List.range N).map I) qs st k | none=>false)=true:=e;have hx':f.sc.names.lookup x=some .globalImplicit:=hs ▸ hx;have main:wpAny (model c.prog c.w) A (eval (.Call (.Name x p0) [ee] [] p1) env) (fun xv s₁=>wpAny (model c.prog c.w) A (pyIter xv) (fun it s2=>codeAny (model c.prog c.w) A (.forLoop t it ss [] env) (fun r s'=>match r with | .ok f=>Q f s' | .error _=>False) s2) (fun _ _=>False) s₁) (fun _ _=>False) s:=by
  refine wpAny_Call_NameR (Jca Gl hE hx' hd (.inr (Gl.bi x 4 hg)) R ?_);refine callWith_of (P:=fun _=>True) (by rw[JX (es:=[ee]) fun y hy=>by cases List.mem_singleton.mp hy; exact hst]; rfl) (fun h _=>JeH 4 h) (Jbk (es:=[ee]) (fun y hy=>by cases List.mem_singleton.mp hy; exact hst) ?_);refine wpAny_items_cons (he hE hs hA.down R e fun ad1 st1 s1 v1 d1 R1 x1 i1 e1=>?_) (JaO hst [] env);refine wpAny_items_nil ⟨trivial,?_⟩;refine Jf fun n1G=>?_;obtain⟨N,hN,e2⟩:=onT e1;obtain⟨rfl,lt⟩:=JcA hN;obtain⟨tk,rfl⟩:=i1;have hv:IE.val c.ν (.lit (.ofNat N))=((N:Nat):Int):=rfl;refine n1G ?_;clear n1G;rw[hv];have p1':=p.step x1 R1;refine call_range_1 (wpAny_pyIter_range (IsRange.new ..) (small_one (by decide) (by decide) (by omega) (by omega)) ?_);have hsz:Builtin.Range.rangeSize 0 (N:Int) 1=(N:Int):=by rw[rangeSize_one]; split <;> omega
  rw[hsz];have k1:∀ b o,s1.heap.get? b=some o→((s1.heap.push { cls:=.type "range",data:=.fields #[.int 0 s1.toks,.int (N:Int) tk,.int 1 (s1.toks+1)] }).push { cls:=.type "range_iterator",data:=.fields #[rawInt 0,rawInt (N:Int),rawInt 1] }).get? b=some o :=
   fun _ _ e=>Heap.get?_push_of_some _ (Heap.get?_push_of_some _ e)
  generalize hH:(s1.heap.push { cls:=.type "range",data:=.fields #[.int 0 s1.toks,.int (N:Int) tk,.int 1 (s1.toks+1)] })=H1;have k0:∀ b o,s1.heap.get? b=some o→H1.get? b=some o:=fun b o e=>by rw[← hH]; exact Heap.get?_push_of_some _ e
  have fr:s1.heap.get? H1.objs.size=none:=by
   cases q:s1.heap.get? H1.objs.size with
   | none=>rfl
   | some o=>have:=k0 _ _ q; rw[Jl] at this; cases this
  obtain⟨F1,F2,F3⟩:=R1.fresh fr;have k1:∀ b o,s1.heap.get? b=some o→(H1.push { cls:=.type "range_iterator",data:=.fields #[rawInt 0,rawInt (N:Int),rawInt 1] }).get? b=some o:=fun b o e=>Heap.get?_push_of_some _ (k0 b o e);have Ra:=R1.grow k1;have Xa:JN ad1 (f::fs) s1 ad1 { s1 with heap:=H1.push { cls:=.type "range_iterator",data:=.fields #[rawInt 0,rawInt (N:Int),rawInt 1] },toks:=s1.toks+1+1 }:=.grow k1 rfl rfl rfl;refine JbE (I:=fun m s'=>JtL c n f fs ad1 s1 H1.objs.size (fun j _ _ _=>IsRangeIter s'.heap H1.objs.size ((j:Nat):Int) ((N:Int) - ((j:Nat):Int)) 1) (fun j l' _ _=>j≤N∧l'=((List.range N).drop j).map I) (fun _ l' _ st'=>(ev F C m).items q l' qs st' k=true) m s') ?_ n
   ⟨Nat.le_refl _,ad1,st1,_,0,Ra,Xa,F1,?_,⟨Nat.zero_le _,rfl⟩,e2⟩
  · rintro m s' ⟨hm,ad',st',l',j,R',X',hn',hit,⟨hj,rfl⟩,e'⟩
    cases m with
    | zero=>exact ff e'
    | succ m =>
     have hq:JaC { cls:=.type "range_iterator",dict:=none,data:=.fields #[rawInt ((j:Nat):Int),rawInt ((N:Int) - ((j:Nat):Int)),rawInt 1],slots:=#[] }:=.inr (.inr rfl);by_cases hjN:j<N
     · rw[Jkt hjN,List.map_cons] at e';have e':(ev F C m).assign q (I j) st' (fun st=>(ev F C m).Ss qs st fun f st=>match f with | .next=>(ev F C m).items q (((List.range N).drop (j+1)).map I) qs st k | .ret d=>k (.ret d) st)=true:=e';refine wpAny_pyNext_range_item hit (by omega) fun h' hi' sb=>?_;have kp:=J4 hit hq rfl sb.extBut;have R2:Jk c ad' (f::fs) st' h':=R'.side hn' F2 F3 sb kp;have X2:JN ad1 (f::fs) s1 ad' { s' with heap:=h',toks:=s'.toks+1 }:=X'.side fr sb kp rfl rfl rfl;refine⟨⟨_,hi',.inr (.inr rfl)⟩,?_⟩;have hAm:Jz A m:=hA.le (by omega);refine ht m (by assumption) (s:={ s' with heap:=h',toks:=s'.toks+1 }) (d:=I j) hE hs hAm R2 ⟨s'.toks,rfl⟩ e' fun ad3 st3 s3 R3 X3 e3=>?_;have X23:JN ad1 (f::fs) s1 ad3 s3:=X2.trans R2 X3;refine hb m (by assumption) hE hs hAm R3 e3 fun ad4 st4 s4 fl d4 R4 X4 i4 e4=>?_;refine Jf fun n1G=>?_;refine Jf fun n2G=>?_;have X34:JN ad' (f::fs) { s' with heap:=h',toks:=s'.toks+1 } ad4 s4:=X3.trans R3 X4;obtain⟨y1,y2⟩:=X34.still R2 hi' hn' F2
       cases d4 with
       | next =>
        have i4:fl=_:=i4;subst i4;refine n2G ?_;clear n2G;refine n1G ?_;clear n1G;refine⟨m,Nat.lt_succ_self m,by exact Nat.le_of_lt ‹_›,ad4,st4,_,j+1,R4,X23.trans R3 X4,y2,?_,⟨hjN,rfl⟩,e4⟩;have z1:(((j+1:Nat):Nat):Int)=((j:Nat):Int)+1:=by omega
        have z2:(N:Int) - (((j+1:Nat):Nat):Int)=(N:Int) - ((j:Nat):Int) - 1:=by omega
        show IsRangeIter s4.heap H1.objs.size _ _ 1;rw[z2,z1];exact y1
       | ret d =>
        obtain⟨u,rfl,i4⟩:=i4;exact n2G (n1G (p1' _ _ _ _ (.ret d) R4 (X23.trans R3 X4) ⟨u,rfl,i4⟩ e4))
     · have:(List.range N).drop j=[]:=List.drop_eq_nil_iff.mpr (by simp; omega);rw[this] at e';have e':k .next st'=true:=e';refine wpAny_pyNext_range_end hA.1 hit (by omega) fun h' sb=>?_;have kp:=J4 hit hq rfl sb;exact p1' ad' st' _ .next .next (R'.side' hn' F2 F3 sb kp) (X'.side' (s2:={ s' with heap:=h' }) fr sb kp rfl rfl rfl) rfl e'
  · show IsRangeIter _ H1.objs.size _ _ 1;simp only[Int.natCast_zero,Int.sub_zero];exact Heap.get?_push_size _ rfl
 exact wpAny_For (wpAny_mono main (fun x s₁ h₁=>wpAny_mono h₁ (fun it s₂ h₂=>codeAny_mono h₂ fun r s' h=>by cases r <;> first | exact h | exact h.elim) fun _ _ q=>q) fun _ _ q=>q) (fun x=>rfl)
end
theorem JdJ {env:Env}(f:Str×NameKind→List (Str×Addr)→Sem (ForInStep (List (Str×Addr))))(hf:∀ n k cs,f (n,k) cs=if (k==NameKind.free)=true then (cellOf env n >>= fun a=>pure (ForInStep.yield ((n,a)::cs))) else pure (ForInStep.yield cs)) :
  ∀ (names:List (Str×NameKind)) (cs:List (Str×Addr)),(∀ n,(n,NameKind.free)∈names→∃ a,env.cells.lookup n=some a)→∃ cl,forIn names cs f=pure cl∧∀ n,cl.lookup n=if (n,NameKind.free)∈names then env.cells.lookup n else cs.lookup n
 | [],cs,_=>⟨cs,rfl,fun n=>by rfl⟩
 | (m,k)::r,cs,h=>by
  rw[List.forIn_cons,hf];by_cases hk:k=.free
  · subst hk;obtain⟨a,ha⟩:=h m (.head _);obtain⟨cl,h1,h2⟩:=JdJ f hf r ((m,a)::cs) fun n hn=>h n (.tail _ hn);refine⟨cl,?_,fun n=>?_⟩
    · have:cellOf env m=pure a:=by unfold cellOf; rw[ha]
      rw[this];exact h1
    · rw[h2 n];by_cases q:(n,NameKind.free)∈r
      · rw[if_pos q,if_pos (.tail _ q)]
      · rw[if_neg q,List.lookup_cons];by_cases e:n=m
        · subst e; rw[beq_self_eq_true,if_pos (.head _),ha]
        · rw[beq_eq_false_iff_ne.mpr e,if_neg];intro z;rcases List.mem_cons.mp z with z | z
          · cases z; exact e rfl
          · exact q z
  · have hk':(k==NameKind.free)=false:=by cases k <;> first | rfl | exact absurd rfl hk
    obtain⟨cl,h1,h2⟩:=JdJ f hf r cs fun n hn=>h n (.tail _ hn);refine⟨cl,?_,fun n=>?_⟩
    · rw[hk']; exact h1
    · rw[h2 n];have:(n,NameKind.free)∈(m,k)::r↔(n,NameKind.free)∈r:=by
       constructor
       · intro z;rcases List.mem_cons.mp z with z | z
         · cases z; exact absurd rfl hk
         · exact z
       · exact .tail _
      simp only[this]
theorem Jgj {scope:Scope}{env:Env}(h:∀ n,(n,NameKind.free)∈scope.names→∃ a,env.cells.lookup n=some a):∃ cl,closureFor scope env=pure cl∧∀ n,(n,NameKind.free)∈scope.names→cl.lookup n=env.cells.lookup n:=by
 obtain⟨cl,h1,h2⟩:=JdJ (env:=env) (fun x cs=>match x with
  | (name,kind)=>if (kind==NameKind.free)=true then (do let a ← cellOf env name; pure (ForInStep.yield ((name,a)::cs))) else pure (ForInStep.yield cs)) (fun n k cs=>rfl) scope.names [] h
 refine⟨cl,?_,fun n hn=>by rw[h2 n,if_pos hn]⟩;have h3:=congrArg (fun t:Sem (List (Str×Addr))=>t >>= fun r=>pure r) h1;exact h3
theorem JlJ:JbO NT ".0" 0=none:=by decide +kernel
set_option tactic.hygienic true in
theorem JT {sc:Scope}{x:Str}:∀ {l:List (Str×NameKind)}{fr:List Nat},Jat NT sc x l=some fr→∀ n k,(n,k)∈l →
  (k=.local∧(n=x∨n=".0"))∨(k=.free∧n≠".0"∧(sc.names.lookup n=some .cell∨sc.names.lookup n=some .free)∧∃ i∈fr,Js NT i=some n)
 | [],_,_,_,_,h=>nomatch h
 | (m,km)::r,fr,e,n,k,h=>by
  refine Jf fun n1G=>?_;simp only[Jat] at e;split at e
  · split at e
    · rename_i q;rcases List.mem_cons.mp h with h | h
      · cases h
        exact n1G (.inl ⟨rfl,.inl (Jbl q)⟩)
      · exact n1G (JT e n k h)
    · split at e
      · rename_i q;rcases List.mem_cons.mp h with h | h
        · cases h
          exact n1G (.inl ⟨rfl,.inr (Jbl q)⟩)
        · exact n1G (JT e n k h)
      · exact fo e
  · split at e
    · rename_i cf;split at e
      · rename_i i hi;split at e
        · rename_i l hl;obtain rfl:=Jp e;rcases List.mem_cons.mp h with h | h
          · cases h
            refine n1G ?_;clear n1G;refine .inr ⟨rfl,fun q=>?_,?_,i,.head _,?_⟩
            · refine Jf fun n2G=>?_;subst q;rw[JlJ] at hi; cases hi
            · refine Jf fun n3G=>?_;unfold Jyp at cf;rw[Jbo] at cf;split at cf
              · rename_i z;exact n3G (.inl z)
              · rename_i z;exact n3G (.inr z)
              · exact ff cf
            · refine Jf fun n4G=>?_;obtain⟨j,h1,h2⟩:=JfA hi;refine n4G ?_;clear n4G;rw[h1,Nat.zero_add]; exact h2
          · rcases JT hl n k h with z | ⟨z1,z2,z3,j,z4,z5⟩
            · exact n1G (.inl z)
            · exact n1G (.inr ⟨z1,z2,z3,j,.tail _ z4,z5⟩)
        · exact fo e
      · exact fo e
    · exact fo e
  · exact fo e
theorem Jcs {l:List (Str×NameKind)}{n:Str}{k:NameKind}(e:l.lookup n=some k):(n,k)∈l:=by
 induction l with
 | nil=>exact fo e
 | cons p r ih =>
  obtain⟨m,km⟩:=p;rw[List.lookup_cons] at e;by_cases q:n=m
  · subst q; (rw[beq_self_eq_true] at e; obtain rfl:=Jp e); exact .head _
  · rw[beq_eq_false_iff_ne.mpr q] at e; exact .tail _ (ih e)
theorem Jdx {l:List (Str×NameKind)}{n:Str}{k:NameKind}(h:∀ k',(n,k')∈l→k'=k)(m:(n,k)∈l):l.lookup n=some k:=by
 induction l with
 | nil=>cases m
 | cons p r ih =>
  obtain⟨m',km⟩:=p;rw[List.lookup_cons];by_cases q:n=m'
  · subst q; rw[beq_self_eq_true,h km (.head _)]
  · rw[beq_eq_false_iff_ne.mpr q];refine ih (fun k' hk'=>h k' (.tail _ hk')) ?_;rcases List.mem_cons.mp m with m | m
    · (injection m with zz; subst zz); exact absurd rfl q
    · exact m
theorem JcW {g:Str→Bool}:∀ {l:List (Str×NameKind)}{n:Str}{k:NameKind},(l.map fun (p:Str×NameKind)=>if (p.2==NameKind.free&&g p.1)=true then (p.1,NameKind.cell) else (p.1,p.2)).lookup n=some k→∃ k0,l.lookup n=some k0∧(k0=k∨(k0=.free∧k=.cell))
 | [],_,_,e=>by cases e
 | (m,km)::r,n,k,e=>by
  rw[List.map_cons] at e;by_cases q:n=m
  · subst q;rw[List.lookup_cons,beq_self_eq_true];refine⟨km,rfl,?_⟩;split at e
    · rename_i z;rw[List.lookup_cons,beq_self_eq_true] at e;obtain rfl:=Jp e;rw[Bool.and_eq_true] at z;right;have z1:=z.1;exact⟨by cases km <;> first | rfl | (simp at z1),rfl⟩
    · rw[List.lookup_cons,beq_self_eq_true] at e;obtain rfl:=Jp e;exact .inl rfl
  · rw[List.lookup_cons,beq_eq_false_iff_ne.mpr q];refine JcW (g:=g) ?_;split at e <;> (rw[List.lookup_cons,beq_eq_false_iff_ne.mpr q] at e; exact e)
theorem JN.widen {ad ad':List Addr}{fs:List JH}{s s':Shared}(x:JN ad fs s ad' s')(g:JH):JN ad (g::fs) s ad' s' :=
 ⟨x.pre,x.newer,fun b o e n1 n2=>x.keep b o e n1 fun q=>n2 (.tail _ q),x.kept,x.gens,x.drawn,x.os⟩
theorem JN.narrow {ad ad':List Addr}{fs:List JH}{s s':Shared}{g:JH}(x:JN ad (g::fs) s ad' s')(h:s.heap.get? g.L=none):JN ad fs s ad' s' :=
 ⟨x.pre,x.newer,fun b o e n1 n2=>x.keep b o e n1 fun q=>(List.mem_cons.mp q).elim (fun q=>by subst q; rw[h] at e; cases e) n2,x.kept,x.gens,x.drawn,x.os⟩
theorem JfW {h:Heap}{a:Addr}(e:h.objs.size≤a):h.get? a=none:=by
 cases q:h.get? a with
 | none=>rfl
 | some o=>exact absurd (Heap.lt_size q) (Nat.not_lt.mpr e)
theorem Jgi {h:Heap}{a:Addr}{m:Str→Option Value}(x:h.Ns a m):JQ h a:=by
 obtain⟨o,es,ep,ho,hd,_⟩:=x;exact .dict ho hd
section
variable {c:Jx}{F:FT'}{n:Nat}{pos:Pos}{K:Frag}{JB:List Addr}{mg mb:Str→Option Value}
theorem JoG (nt:∀ x y nm,Js NT x=some nm→Js NT y=some nm→x=y){f:JH}{csc:Scope}{x:Str}{xi:Nat}{fr:List Nat}{cl:List (Str×Addr)}{Ca:Addr}(hxi:Js NT xi=some x)(hx:csc.names.lookup x=some .local)(hnm:Jat NT f.sc x csc.names=some fr)
  (hcl:∀ nm,(nm,NameKind.free)∈csc.names→cl.lookup nm=f.cl.lookup nm) {ad:List Addr}{h:Heap}{loc:Loc} (L:Ja6 c.ν ad h f loc) {d:D}{v:Value} (hd:Je c.ν ad h d v) {m:Str→Option Value} (hm:h.Ns Ca m) (hv:m x=some v):Ja6 c.ν ad h ⟨Ca,cl,Jbn csc f.sc⟩ ((xi,d)::loc):=by
 obtain⟨m0,z1,z2⟩:=L;refine⟨m,hm,fun x' nm d' q1 q2=>?_⟩;have rl:∀ {k},(Jbn csc f.sc).names.lookup nm=some k→∃ k0,csc.names.lookup nm=some k0∧(k0=k∨(k0=.free∧k=.cell)):=fun {k} e =>
  JcW (g:=fun n=>f.sc.kind==.function&&f.sc.names.lookup n==some .cell) (by
   have e:(csc.names.map fun (p:Str×NameKind)=>if (p.2==.free&&f.sc.kind==.function&&f.sc.names.lookup p.1==some .cell)=true then (p.1,NameKind.cell) else (p.1,p.2)).lookup nm=some k:=e;simp only[Bool.and_assoc] at e;exact e)
 refine⟨fun q=>?_,fun q=>?_⟩
 · refine Jf fun n1G=>?_;obtain⟨k0,h1,h2⟩:=rl q;have h3:k0=.local:=h2.elim id fun z=>by cases z.2
   subst h3;rcases JT hnm nm _ (Jcs h1) with ⟨_,h4 | h4⟩ | ⟨h4,_⟩
   · subst h4;have:=nt _ _ _ q1 hxi;subst this;rw[JJ,if_pos rfl] at q2;obtain rfl:=Jp q2;exact n1G ⟨v,hv,hd⟩
   · subst h4;refine n1G ?_;clear n1G;exfalso;have:∀ {l:List Str}{x:Str}{i n:Nat},Js l i=some x→∃ j,JbO l x n=some j:=by
      intro l x
      induction l with
      | nil=>intro i n e; cases e
      | cons k r ih =>
       intro i n e;simp only[JbO];split
       · exact⟨_,rfl⟩
       · rename_i z
         cases i with
         | zero=>have e:k=x:=Jp e; rw[JbB.mpr e] at z; cases z
         | succ i=>rw[JG] at e; exact ih (i:=i) (n:=Nat.succ n) (by rw[JG]; simpa using e)
     obtain⟨j,hj⟩:=this (n:=0) q1;rw[JlJ] at hj; cases hj
   · cases h4
 · have free:csc.names.lookup nm=some .free:=by
     rcases q with q | q
     · refine Jf fun n2G=>?_;obtain⟨k0,h1,h2⟩:=rl q;rcases h2 with h2 | ⟨h2,_⟩
       · subst h2;refine n2G ?_;clear n2G;rcases JT hnm nm _ (Jcs h1) with ⟨h4,_⟩ | ⟨h4,_⟩ <;> cases h4
       · subst h2;exact n2G (h1)
     · refine Jf fun n3G=>?_;obtain⟨k0,h1,h2⟩:=rl q;rcases h2 with h2 | ⟨_,h2⟩
       · subst h2;exact n3G (h1)
       · cases h2
   have ne:xi≠x':=by
    intro z; subst z;obtain rfl:=sjt hxi q1;rw[hx] at free; cases free
   rw[JJ,if_neg ne] at q2;rcases JT hnm nm _ (Jcs free) with ⟨h4,_⟩ | ⟨_,_,h5,_⟩
   · cases h4
   · obtain⟨cc,v',w1,w2,w3⟩:=(z2 x' nm d' q1 q2).2 h5;exact⟨cc,v',by rw[show cl.lookup nm=_ from hcl nm (Jcs free)]; exact w1,w2,w3⟩
inductive JFq (c:Jx)(F:FT')(n:Nat)(qelt:QE)(xi i yi:Nat)(k:Fl→St→Bool)(f:JH)(fs:List JH)(ad1:List Addr)(s1:Shared)(la Ia Da Ca:Addr)(m:Nat)(s':Shared):Prop where
 | mk (hm:m≤n) (ad':List Addr) (st':St) (j:Nat) (acc:List D) (ys:Array Value) (kk:List D→St→Bool) (mC:Str→Option Value) (R:Jk c ad' (f::fs) st' s'.heap) (X:JN ad1 (f::fs) s1 ad' s') (n1:Ia ∉ ad') (n2:Da ∉ ad') (n3:Ca ∉ ad') (it:s'.heap.IsListIter Ia la j)
   (dl:s'.heap.PlainList Da ys) (g:Je.goL c.ν ad' s'.heap acc ys.toList) (la:acc.length=j) (hn:s'.heap.Ns Ca mC) (e:(ev F C m).comp qelt xi i j st' kk=true) (hk:∀ vs st2,kk vs st2=k .next ((st2.alloc (.list 0 (acc++vs))).setLoc yi (.obj st2.n)))
theorem Jmo (nt:∀ x y nm,Js NT x=some nm→Js NT y=some nm→x=y){f:JH}{y x:Str}{yi xi:Nat}{py px cpos:Pos}{elt iter:Expr}{csc:Scope}{fr:List Nat}{qelt:QE}
  (helt:∀ m,m<n→HE c F m (Jbn csc f.sc) qelt elt) (hyi:Js NT yi=some y) (hxi:Js NT xi=some x) (hy:f.sc.names.lookup y=some .local) (hx:csc.names.lookup x=some .local) (hk:csc.kind=.function) (hnm:Jat NT f.sc x csc.names=some fr)
  {env:Env}{fs:List JH}{A:Around}{k:Fl→St→Bool}{Q:Flow→Shared→Prop} (hE:JY env f) (hA:Jz A (n+1)) {cl:List (Str×Addr)} (hcl2:∀ nm,(nm,NameKind.free)∈csc.names→cl.lookup nm=f.cl.lookup nm)
  {ad1:List Addr}{s1:Shared}{i:Nat}{la Ia Da Ca:Addr} (hla:ad1[i]?=some la) (fI:s1.heap.get? Ia=none) (fD:s1.heap.get? Da=none) (fC:s1.heap.get? Ca=none) (I2:Ia ∉ (f::fs).map (·.L)) (D2:Da ∉ (f::fs).map (·.L)) (C2:Ca ∉ (f::fs).map (·.L))
  (I3:c.h₀.get? Ia=none) (D3:c.h₀.get? Da=none) (C3:c.h₀.get? Ca=none) (nD:Da≠Ca) (nI:Ia≠Ca) (nID:Ia≠Da) (p1:JeX c ad1 (f::fs) s1 k Q) {s₃:Shared} (I0:JFq c F n qelt xi i yi k f fs ad1 s1 la Ia Da Ca n s₃) :
  codeAny (model c.prog c.w) A (.compLoop (.ListComp elt [⟨.Name x px,iter,[],0⟩] csc cpos) 0 (.ref Ia) (.ref Da) (compEnvC csc cl Ca env)) (compPost (model c.prog c.w) A (fun _ _=>False) (some (assign (.Name y py) env)) (fun _ s'=>Q .next s') (.ref Da) Ca) s₃:=by
 have key:env.kindOf y=some .local:=by unfold Env.kindOf; rw[hE.sc]; exact hy
 let f':JH:=⟨Ca,cl,Jbn csc f.sc⟩;have hE':JY (compEnvC csc cl Ca env) f':=by
  refine⟨?_,rfl,rfl,hE.gl,hE.bl,hk⟩;show relabel csc env=Jbn csc f.sc;unfold relabel Jbn Env.kindOf;rw[hE.sc]
 have kx:(compEnvC csc cl Ca env).kindOf x=some .local:=lookup_relabel_local hx;refine codeAny_compLoop_list (I:=JFq c F n qelt xi i yi k f fs ad1 s1 la Ia Da Ca) ?_ n I0;rintro m s' ⟨hm,ad',st',j,acc,ys,kk,mC,R',X',n1,n2,n3,hit',hdl,gacc,lacc,hns,e',hkk⟩;refine Jf fun n1G=>?_
 cases m with
 | zero=>exact ff e'
 | succ m =>
  obtain⟨oi,ho,hc,hd⟩:=id hit';have hq:JaC oi:=.inl hc;have e':Jf8 (ev F C m) qelt xi i j st' kk=true:=e';obtain⟨l,g,e'⟩:=lsT e';obtain⟨hsl,e'⟩:=bmT e';have lsh:=Jy hsl;obtain⟨us,g1,g4⟩:=R'.list0 g (X'.pre _ _ hla);have n4:=Jm g4
  cases hx0:Js l j with
  | none =>
   rw[hx0] at e';rw[JG,List.getElem?_eq_none_iff] at hx0;have hx':us.toArray[j]?=none:=by rw[List.getElem?_toArray,List.getElem?_eq_none_iff,n4]; exact hx0
   refine n1G ?_;clear n1G;refine wpAny_pyNext_list_end hA.1 hit' g1.isList hx' fun h' sb=>?_;refine Jf fun n2G=>?_;have kp:=J4 ho hq hd sb;have R2:Jk c ad' (f::fs) st' h':=R'.side' n1 I2 I3 sb kp;have X2:JN ad1 (f::fs) s1 ad' { s' with heap:=h' }:=X'.side' fI sb kp rfl rfl rfl;obtain⟨kd,od⟩:=hdl;have od':h'.get? Da=some _:=sb _ _ nID.symm od;have hns':h'.Ns Ca mC:=by
    refine Jf fun n3G=>?_;obtain⟨o,es,ep,q1,q2⟩:=hns;exact n3G ⟨o,es,ep,sb _ _ nI.symm q1,q2⟩
   rw[hkk,List.append_nil] at e';have R3:Jk c (ad'++[Da]) (f::fs) (st'.alloc (.list 0 acc)) h':=R2.adopt n2 D2 D3 ⟨ys,[],ys.toList,⟨kd,od'⟩,rfl,rfl,Je.monoL kp.tup (Pre.snoc _ _) gacc⟩ (fun _ _ e=>by cases e);have X3:JN ad1 (f::fs) s1 (ad'++[Da]) { s' with heap:=h' }:=X2.adopt fD;obtain⟨l5,r5,er5,⟨m5,hm5,hl5⟩,_⟩:=R3.frames;refine n2G ?_;clear n2G;show wpAny _ A (assign (.Name y py) env (.ref Da)) _ _ _;have fLC:f.L≠Ca:=fun q=>C2 (by rw[← q]; exact .head _);refine wpAny_assign_Name (wpAny_storeName_local (m:=m5) key (hE.L ▸ hm5) (fun h'' hn'' sb''=>?_) (by rw[hE.sc,hE.kind]; rfl));rw[hE.L] at hn'' sb'';have hv:Je c.ν (ad'++[Da]) h' (.obj st'.n) (.ref Da):=JcB (s:={ s' with heap:=h' }) R2;have R4:=R3.setLoc nt hyi hy hm5 hn'' sb'' hv;have X4:JN ad1 (f::fs) s1 (ad'++[Da]) { s' with heap:=h'',toks:=s'.toks+1 }:=X3.trans R3 (.setLoc (s':={ s' with heap:=h'',toks:=s'.toks+1 }) R3 sb'' rfl rfl rfl);have n3':Ca ∉ ad'++[Da]:=fun q=>(List.mem_append.mp q).elim n3 fun q=>nD (List.mem_singleton.mp q).symm;have hnsC:h''.Ns Ca mC:=by
    refine Jf fun n4G=>?_;obtain⟨o,es,ep,q1,q2⟩:=hns';exact n4G ⟨o,es,ep,(sb''.2 _ fLC.symm).trans q1,q2⟩
   refine⟨mC,hnsC,fun h3 sb3=>?_⟩;have kp3:=Jar (Jgi hnsC) sb3;exact p1 _ _ _ .next .next (R4.side n3' C2 C3 sb3 kp3) (X4.side (s2:={ s' with heap:=h3,toks:=s'.toks+1 }) fC sb3 kp3 rfl rfl rfl) rfl e'
  | some d =>
   rw[hx0] at e';obtain⟨v,y1,y2⟩:=Jc4 g4 hx0;have jl:j<l.length:=by rw[JG] at hx0; exact (List.getElem?_eq_some_iff.mp hx0).1
   have hx':us.toArray[j]?=some v:=by rw[List.getElem?_toArray]; exact y1
   refine n1G ?_;clear n1G;refine wpAny_pyNext_list_item hit' g1.isList hx' fun h2 hi2 sb2=>?_;have kp2:=J4 ho hq hd sb2.extBut;have R2:Jk c ad' (f::fs) st' h2:=R'.side n1 I2 I3 sb2 kp2;have X2:JN ad1 (f::fs) s1 ad' { s' with heap:=h2 }:=X'.side fI sb2 kp2 rfl rfl rfl;have hns2:h2.Ns Ca mC:=by
    refine Jf fun n5G=>?_;obtain⟨o,es,ep,q1,q2⟩:=hns;exact n5G ⟨o,es,ep,(sb2.2 _ nI.symm).trans q1,q2⟩
   refine wpAny_assign_Name (wpAny_storeName_local (m:=mC) kx hns2 (fun h3 hn3 sb3=>?_) (by have hk2:(compEnvC csc cl Ca env).scope.kind=.function:=hk; rw[hk2]; rfl));refine Jf fun n6G=>?_;have kp3:=Jar (Jgi hns2) sb3;have R3:Jk c ad' (f::fs) st' h3:=R2.side n3 C2 C3 sb3 kp3;have X3:JN ad1 (f::fs) s1 ad' { s' with heap:=h3,toks:=s'.toks+1 }:=X2.side (s2:={ s' with heap:=h3,toks:=s'.toks+1 }) fC sb3 kp3 rfl rfl rfl;obtain⟨l5,r5,er5,hloc,hrest⟩:=R3.frames
   cases er5
   have y3:Je c.ν ad' h3 d v:=y2.mono (kp2.trans kp3).tup fun _ _ e=>e;have L3:Ja6 c.ν ad' h3 f' ((xi,d)::st'.loc):=JoG nt hxi hx hnm hcl2 hloc y3 hn3 (by simp);have R4:Jk c ad' (f'::f::fs) (st'.push ((xi,d)::st'.loc)) h3:=R3.into L3 ⟨n3,C2⟩ C3;have hAm:Jz A m:=hA.le (by omega);refine n6G ?_;clear n6G;refine wpAny_mono (?_:wpAny _ _ _ _ (fun _ _=>False) _) (fun _ _ q=>q) fun _ _ q=>q.elim;refine helt m (by assumption) (s:={ s' with heap:=h3,toks:=s'.toks+1 }) hE' rfl hAm R4 e' fun ad5 st5 s5 v5 d5 R5 x5 i5 e5=>?_;refine Jf fun n7G=>?_;obtain⟨l6,r6,er6,R6⟩:=R5.outof (by exact fun h=>nomatch h);rw[er6] at e5;have e5:(ev F C m).comp qelt xi i (Nat.succ j) (st5.pop l6 r6) (fun vs st=>kk (d5::vs) st)=true:=e5;have X5:JN ad1 (f::fs) s1 ad5 s5:=((X3.widen f').trans R4 x5).narrow fC;obtain⟨kd,od⟩:=hdl;have od3:h3.get? Da=some _:=(sb3.2 _ nD).trans ((sb2.2 _ nID.symm).trans od);have D2':Da ∉ (f'::f::fs).map (·.L):=fun q=>(List.mem_cons.mp q).elim nD D2;obtain⟨od5,n2'⟩:=x5.still R4 od3 n2 D2';obtain⟨o2,ho2,hc2,hd2⟩:=id hi2;have oi3:h3.get? Ia=some o2:=(sb3.2 _ nI).trans ho2;have I2':Ia ∉ (f'::f::fs).map (·.L):=fun q=>(List.mem_cons.mp q).elim nI I2;obtain⟨oi5,n1'⟩:=x5.still R4 oi3 n1 I2';obtain⟨l7,r7,er7,⟨m7,hm7,_⟩,_⟩:=R5.frames;have n3':Ca ∉ ad5:=fun q=>(x5.newer _ q).elim n3 fun q=>by
    refine Jf fun n8G=>?_;obtain⟨oo,q1,_⟩:=Jgi hn3
    cases q1.symm.trans q
   have pl5:s5.heap.PlainList Da ys:=⟨kd,od5⟩;have ysz:ys.size=j:=by rw[← lacc,← Jm gacc,Array.length_toList]
   refine n7G ?_;clear n7G;refine wpAny_list_append_plain pl5 (fun h6 hl6 sb6=>?_) (by rw[ysz,sizeLine_eq]; omega);have P6:JQ s5.heap Da:=by
    refine⟨_,od5,?_,?_⟩
    · intro xs n q; simp at q
    · intro v q; cases q
   have kp6:=Jar P6 sb6;have R7:Jk c ad5 (f::fs) (st5.pop l6 r6) h6:=R6.side n2' D2 D3 sb6 kp6;have X7:JN ad1 (f::fs) s1 ad5 { s5 with heap:=h6 }:=X5.side fD sb6 kp6 rfl rfl rfl;refine⟨m,Nat.lt_succ_self m,by exact Nat.le_of_lt ‹_›,ad5,_,j+1,acc++[d5],ys.push v5,_,m7,R7,X7,n1',n2',n3',⟨o2,(sb6.2 _ nID).trans oi5,hc2,hd2⟩,hl6,?_,by simp[lacc],?_,e5,fun vs st2=>?_⟩
   · rw[Array.toList_push];exact JbN (Je.monoL ((((kp2.trans kp3).trans x5.kept).trans kp6).tup) x5.pre gacc) ⟨v5,[],rfl,i5.mono kp6.tup (fun _ _ e=>e),rfl⟩
   · refine Jf fun n9G=>?_;obtain⟨o,es,ep,q1,q2⟩:=hm7;exact n9G ⟨o,es,ep,(sb6.2 _ nD.symm).trans q1,q2⟩
   · rw[hkk,List.append_assoc]; rfl
inductive JvM (f:JH)(env:Env)(csc:Scope):Prop
 | mk (cl:List (Str×Addr)) (h1:closureFor csc env=pure cl) (h2:∀ nm,(nm,NameKind.free)∈csc.names→cl.lookup nm=f.cl.lookup nm) (h3:∀ z∈csc.names,z.2≠.cell) (h4:∀ z∈csc.names,z.2=.local→csc.names.lookup z.1=some .local)
theorem JkG {f:JH}{fs:List JH}{ad:List Addr}{st:St}{h:Heap}{env:Env}{csc:Scope}{x:Str}{fr:List Nat}(hnm:Jat NT f.sc x csc.names=some fr)(hx:csc.names.lookup x=some .local)(hE:JY env f)(R:Jk c ad (f::fs) st h)(hfr:Jw (JDm st.loc) fr=true):JvM f env csc:=by
 refine Jf fun n1G=>?_;have cells:∀ nm,(nm,NameKind.free)∈csc.names→∃ a,env.cells.lookup nm=some a:=by
  intro nm hn;refine Jf fun n2G=>?_;rcases JT hnm nm _ hn with ⟨h4,_⟩ | ⟨_,_,h5,i,h6,h7⟩
  · cases h4
  · obtain⟨d,hl,_⟩:=odT (Jn hfr i h6);obtain⟨l,r,er,⟨m,hm,hl'⟩,_⟩:=R.frames
    cases er
    obtain⟨cc,v,w1,_⟩:=(hl' i nm d h7 hl).2 h5;exact n2G ⟨cc,by rw[hE.cl]; exact w1⟩
 obtain⟨cl,hcl,hcl2⟩:=Jgj cells;refine n1G ?_;clear n1G;refine⟨cl,hcl,fun nm h=>by rw[hcl2 nm h,hE.cl],fun ⟨nm,kk⟩ hz q=>?_,fun ⟨nm,kk⟩ hz q=>?_⟩
 · refine Jf fun n3G=>?_;have q:kk=.cell:=q;subst q;refine n3G ?_;clear n3G;rcases JT hnm nm _ hz with ⟨h4,_⟩ | ⟨h4,_⟩ <;> cases h4
 · refine Jf fun n4G=>?_;have q:kk=.local:=q;subst q;rcases JT hnm nm _ hz with ⟨_,h4 | h4⟩ | ⟨h4,_⟩
   · subst h4;exact n4G (hx)
   · subst h4;refine n4G ?_;clear n4G;refine Jdx (fun k' hk'=>?_) hz;refine Jf fun n5G=>?_;rcases JT hnm _ k' hk' with ⟨h5,_⟩ | ⟨_,h5,_⟩
     · exact n5G (h5)
     · exact absurd rfl h5
   · cases h4
theorem JrC (nt:∀ x y nm,Js NT x=some nm→Js NT y=some nm→x=y){sc:Scope}{y x:Str}{yi xi:Nat}{py px cpos:Pos}{elt iter:Expr}{csc:Scope}{fr:List Nat}{qelt qit:QE}(hit:HE c F n sc qit iter)(hset:JcD iter=true)
  (helt:∀ m,m<n→HE c F m (Jbn csc sc) qelt elt) (hyi:Js NT yi=some y) (hxi:Js NT xi=some x) (hy:sc.names.lookup y=some .local) (hx:csc.names.lookup x=some .local) (hk:csc.kind=.function) (hline:py.line=cpos.line)
  (hany:(csc.names.any fun (n,k)=>n==y&&(k==.local||k==.cell))=false) (hnm:Jat NT sc x csc.names=some fr) :
  HS c F (n+1) sc (.asgc yi qelt xi qit fr) (.Assign [.Name y py] (.ListComp elt [⟨.Name x px,iter,[],0⟩] csc cpos) pos):=by
 intro env f fs A ad st s k Q hE hs hA R e p;refine Jf fun n1G=>?_;subst hs;obtain⟨hfr,e⟩:=bmT (show JrL (ev F C n) yi qelt xi qit fr st k=true from e);obtain⟨cl,hcl,hcl2,hcell,hnames⟩:=JkG hnm hx hE R hfr;have key:env.kindOf y=some .local:=by unfold Env.kindOf; rw[hE.sc]; exact hy
 have hkind:env.scope.kind=.function:=by rw[hE.sc]; exact hE.kind
 have hsw:swapsWith (.ListComp elt [⟨.Name x px,iter,[],0⟩] csc cpos) (some (.Name y py)) pos.line env=pure true:=by
  unfold swapsWith;show pure (env.blockKind==.function&&env.kindOf y==some .local&&py.line==cpos.line&&!(csc.names.any fun (n,k)=>n==y&&(k==.local||k==.cell)))=pure true;rw[hany,key,hline];have:env.blockKind=.function:=by unfold Env.blockKind; rw[hkind]; rfl
  rw[this];simp
 refine n1G ?_;clear n1G;rw[exec_Assign_Name_used _ _ _ _ hsw];refine wpAny_bind (wpAny_standAt (wpAny_bind ?_));show wpAny _ A (do let _ ← comprehension (.ListComp elt [⟨.Name x px,iter,[],0⟩] csc cpos) csc env _ (newList []) false (eval iter env) (some (assign (.Name y py) env))) _ _ s
 refine wpAny_bind (wpAny_mono (wpAny_comprehension_free (use:=some (assign (.Name y py) env)) (Q:=fun _ s'=>Q .next s') rfl (fun x=>Jcf hset env x) hcl hk hnames ?_) (fun _ s' hq=>wpAny_pure (wpAny_pure hq)) fun _ _ e=>e);refine hit hE rfl hA.down R e fun ad1 st1 s1 v1 d1 R1 x1 i1 e1=>?_;refine Jf fun n6G=>?_;refine Jf fun n2G=>?_;have p1:=p.step x1 R1
 cases d1 with
 | obj i =>
  obtain⟨la,hla,rfl⟩:=i1;have e1:(ev F C n).comp qelt xi i 0 st1 (fun r st=>k .next ((st.alloc (.list 0 r)).setLoc yi (.obj st.n)))=true:=e1;have isL:∃ items,s1.heap.IsList la items:=by
   refine Jf fun n3G=>?_
   cases n with
   | zero=>exact ff e1
   | succ n =>
    obtain⟨l,g,_⟩:=lsT (show Jf8 (ev F C n) qelt xi i 0 st1 (fun r st=>k .next ((st.alloc (.list 0 r)).setLoc yi (.obj st.n)))=true from e1);obtain⟨vs,g1,_⟩:=R1.list0 g hla;exact n3G ⟨_,g1.isList⟩
  obtain⟨items0,hl0⟩:=isL;refine n2G ?_;clear n2G;refine n6G ?_;clear n6G;refine wpAny_pyIter_list hl0 ?_;refine wpAny_newObj_type (wpAny_newFunctionEnv hcell (by intro z hz; simp at hz) (fun h₁ hns₁ hsb₁=>?_) hk);dsimp only at hns₁ hsb₁ ⊢;generalize hH1:s1.heap.push { cls:=.type "list_iterator",data:=.fields #[.ref la,.int 0 0] }=H1 at hns₁ hsb₁ ⊢;generalize hH2:H1.push { cls:=.type "list",dict:=none,data:=.seq ([]:List Value).toArray }=H2 at hns₁ hsb₁ ⊢;refine Jf fun n8G=>?_;refine Jf fun n4G=>?_;have sz1:H1.objs.size=s1.heap.objs.size+1:=by rw[← hH1,Heap.size_push]
  have sz2:H2.objs.size=s1.heap.objs.size+2:=by rw[← hH2,Heap.size_push,sz1]
  have fI:s1.heap.get? s1.heap.objs.size=none:=JfW (Nat.le_refl _);have fD:s1.heap.get? H1.objs.size=none:=JfW (by omega);have fC:s1.heap.get? H2.objs.size=none:=JfW (by omega);have up:∀ b o,H2.get? b=some o→h₁.get? b=some o:=fun b o e=>hsb₁.extBut b o (Nat.ne_of_lt (Heap.lt_size e)) (Heap.get?_push_of_some _ e);have old:∀ b o,s1.heap.get? b=some o→h₁.get? b=some o:=fun b o e=>up b o (by rw[← hH2]; exact Heap.get?_push_of_some _ (by rw[← hH1]; exact Heap.get?_push_of_some _ e));have it₁:h₁.IsListIter s1.heap.objs.size la 0:=⟨_,up _ _ (by rw[← hH2]; exact Heap.get?_push_of_some _ (by rw[← hH1]; exact Heap.get?_push_size _ rfl)),rfl,rfl⟩;have dl₁:h₁.PlainList H1.objs.size #[]:=⟨_,up _ _ (by rw[← hH2]; exact Heap.get?_push_size _ rfl)⟩;obtain⟨I1,I2,I3⟩:=R1.fresh fI;obtain⟨D1,D2,D3⟩:=R1.fresh fD;obtain⟨C1,C2,C3⟩:=R1.fresh fC;have Ra:Jk c ad1 (f::fs) st1 h₁:=R1.grow old;have nD:H1.objs.size≠H2.objs.size:=by omega
  have nI:s1.heap.objs.size≠H2.objs.size:=by omega
  have nID:s1.heap.objs.size≠H1.objs.size:=by omega
  have loop:∀ s₃:Shared,s₃.heap=h₁→JN ad1 (f::fs) s1 ad1 s₃→codeAny (model c.prog c.w) A (.compLoop (.ListComp elt [⟨.Name x px,iter,[],0⟩] csc cpos) 0 (.ref s1.heap.objs.size) (.ref H1.objs.size) (compEnvC csc cl H2.objs.size env))
    (compPost (model c.prog c.w) A (fun _ _=>False) (some (assign (.Name y py) env)) (fun _ s'=>Q .next s') (.ref H1.objs.size) H2.objs.size) s₃:=fun s₃ hs₃ Xa =>
   Jmo nt helt hyi hxi hy hx hk hnm hE hA hcl2 hla fI fD fC I2 D2 C2 I3 D3 C3 nD nI nID p1
    ⟨Nat.le_refl _,ad1,st1,0,[],#[],_,_,by rw[hs₃]; exact Ra,Xa,I1,D1,C1,by rw[hs₃]; exact it₁,by rw[hs₃]; exact dl₁,rfl,rfl,by rw[hs₃]; exact hns₁,e1,fun _ _=>rfl⟩
  have Xa:∀ tk,JN ad1 (f::fs) s1 ad1 { s1 with heap:=h₁,toks:=tk }:=fun tk=>.grow old rfl rfl rfl;exact n4G (n8G (codeAny_compStart_list (loop _ rfl (Xa _)) (wpAny_pyIter_listiter it₁ (loop _ rfl (Xa _)))))
 | _=>exact ff e1
end
section
variable {c:Jx}{F:FT'}{n:Nat}{sc:Scope}{pos:Pos}{K:Frag}{JB:List Addr}{mg mb:Str→Option Value}
theorem JmS:∀ (n:Nat) {st:St}{k:D→St→Bool},(ev F C n).E .bad st k=false
 | 0,_,_=>rfl
 | _+1,_,_=>rfl
theorem J7 {e:Expr}:HE c F n sc .bad e:=by
 intro env f fs A ad st s k Q hE hs hA R e p;rw[JmS] at e; cases e
theorem Jb5 {e:Expr}:HT c F n sc .bad e:=by
 intro env f fs A ad st s k Q hE hs hA R e p;refine Jf fun n1G=>?_
 cases n with
 | zero=>exact ff e
 | succ n =>
  have e:(ev F C n).E .bad st (fun d st=>JdG d st k)=true:=e;rw[JmS] at e; cases e
theorem Jbw {x:Stmt}:HS c F n sc .bad x:=by
 intro env f fs A ad st s k Q hE hs hA R e p
 cases n <;> cases e
theorem JhK {x:Expr}:HA c F n sc .bad x:=by
 intro env f fs A ad st s k Q d v hE hs hA R hv e p
 cases n <;> cases e
theorem heB {b:Bool}{A:QE}{e:Expr}:(b=true→HE c F n sc A e)→HE c F n sc (match b with | true=>A | false=>.bad) e:=by
 intro h
 cases b
 · exact J7
 · exact h rfl
theorem heO {o:Option Nat}{A:Nat→QE}{e:Expr}:(∀ x,o=some x→HE c F n sc (A x) e)→HE c F n sc (match o with | some x=>A x | none=>.bad) e:=by
 intro h
 cases o
 · exact J7
 · exact h _ rfl
theorem heG {o:Option GV}{A:GV→QE}{e:Expr}:(∀ x,o=some x→HE c F n sc (A x) e)→HE c F n sc (match o with | some x=>A x | none=>.bad) e:=by
 intro h
 cases o
 · exact J7
 · exact h _ rfl
theorem hsB {b:Bool}{A:QS}{e:Stmt}:(b=true→HS c F n sc A e)→HS c F n sc (match b with | true=>A | false=>.bad) e:=by
 intro h
 cases b
 · exact Jbw
 · exact h rfl
theorem hsO {o:Option Nat}{A:Nat→QS}{e:Stmt}:(∀ x,o=some x→HS c F n sc (A x) e)→HS c F n sc (match o with | some x=>A x | none=>.bad) e:=by
 intro h
 cases o
 · exact Jbw
 · exact h _ rfl
theorem hsL {o:Option (List Nat)}{A:List Nat→QS}{e:Stmt}:(∀ x,o=some x→HS c F n sc (A x) e)→HS c F n sc (match o with | some x=>A x | none=>.bad) e:=by
 intro h
 cases o
 · exact Jbw
 · exact h _ rfl
theorem hsS {o:Option Str}{A:Str→QS}{e:Stmt}:(∀ x,o=some x→HS c F n sc (A x) e)→HS c F n sc (match o with | some x=>A x | none=>.bad) e:=by
 intro h
 cases o
 · exact Jbw
 · exact h _ rfl
theorem haB {b:Bool}{A:QT}{e:Expr}:(b=true→HA c F n sc A e)→HA c F n sc (match b with | true=>A | false=>.bad) e:=by
 intro h
 cases b
 · exact JhK
 · exact h rfl
theorem haO {o:Option Nat}{A:Nat→QT}{e:Expr}:(∀ x,o=some x→HA c F n sc (A x) e)→HA c F n sc (match o with | some x=>A x | none=>.bad) e:=by
 intro h
 cases o
 · exact JhK
 · exact h _ rfl
theorem JkX {o:Option NameKind}(h:JoD o=true):o=some .local∨o=some .cell∨o=some .free:=by
 cases o with
 | none=>exact ff h
 | some k=>cases k <;> first | exact .inl rfl | exact .inr (.inl rfl) | exact .inr (.inr rfl) | exact ff h
theorem JbC {l:List (Str×NameKind)}{x:Str}(h:Jcn (JO l x)=true):l.lookup x=some .local:=by
 rw[Jbo] at h
 cases e:l.lookup x with
 | none=>rw[e] at h; exact ff h
 | some k=>rw[e] at h; cases k <;> first | rfl | exact ff h
theorem JcP {l:List (Str×NameKind)}{x:Str}(h:Jiu (JO l x)=true):l.lookup x=some .globalImplicit:=by
 rw[Jbo] at h
 cases e:l.lookup x with
 | none=>rw[e] at h; exact ff h
 | some k=>rw[e] at h; cases k <;> first | rfl | exact ff h
theorem Jjn {e:Expr}{p:Expr×List Expr×List Keyword}(h:JhH e=some p):∃ q,e=.Call p.1 p.2.1 p.2.2 q:=by
 cases e with
 | Call f as ks q=>exact⟨q,by obtain rfl:=Jp h; rfl⟩
 | _=>exact fo h
theorem JbY {e:Expr}{x:Str}(h:JcV e=some x):∃ q,e=.Name x q:=by
 cases e with
 | Name y q=>exact⟨q,by obtain rfl:=Jp h; rfl⟩
 | _=>exact fo h
theorem Jib:JbO NT "__classdict__" 0=none:=by decide +kernel
theorem JpN:JO G "__debug__"=none:=by decide +kernel
theorem Jcz {x:Str}{i:Nat}(h:JbO NT x 0=some i):Js NT i=some x:=by
 obtain⟨j,h1,h2⟩:=JfA h;rw[h1,Nat.zero_add]; exact h2
theorem Jd3 {x:Str}{v:GV}(h:JO G x=some v):(x==("__debug__":Str))=false:=beq_eq_false_iff_ne.mpr fun q=>by subst q; rw[JpN] at h; exact fo h
theorem Jqs (Gl:JcH c K JB mg mb){x:Str}:HE c F (n+1) sc (Jea NT G sc x) (.Name x pos):=by
 unfold Jea
 cases hd:sEq x "__debug__" with
 | true=>exact J7
 | false =>
  have hd':(x==("__debug__":Str))=false:=beq_eq_false_iff_ne.mpr (JmB hd)
  cases hl:JoD (JO sc.names x) with
  | true =>
   refine heO fun i hi=>Jud (Jcz hi) (JkX (by rw[← Jbo]; exact hl)) hd' (beq_eq_false_iff_ne.mpr fun q=>?_);subst q;rw[Jib] at hi; exact fo hi
  | false =>
   refine heB fun hg=>heG fun g h=>?_
   cases g with
   | val d=>exact Jq3 Gl (JcP hg) hd' h
   | _=>exact J7
theorem Jl6 {t a b:Expr}{l r:Expr}{op:CmpOp}{i j:Int}(e:Jmm t a b=some (l,op,r,i,j)):∃ p k1 p1 k2 p2,t=.Compare l [op] [r] p∧a=.Constant (.int i) k1 p1∧b=.Constant (.int j) k2 p2∧behindInMarks op r=false:=by
 refine Jf fun n1G=>?_
 cases t with
 | Compare l ops rs p =>
  refine n1G ?_;clear n1G
  match ops,rs with
  | [op],[r] =>
   refine Jf fun n2G=>?_
   have e:(match behindInMarks op r with
    | false=>match JaK a with
     | some i=>match JaK b with | some j=>some (l,op,r,i,j) | none=>none
     | none=>none
    | true=>none)=some _:=e
   cases hm:behindInMarks op r with
   | true=>rw[hm] at e; exact fo e
   | false =>
    rw[hm] at e
    cases ha:JaK a with
    | none=>rw[ha] at e; exact fo e
    | some i =>
     cases hb:JaK b with
     | none=>rw[ha,hb] at e; exact fo e
     | some j =>
      rw[ha,hb] at e
      cases Jp e
      obtain⟨k1,p1,rfl⟩:=Jb2 ha;obtain⟨k2,p2,rfl⟩:=Jb2 hb;exact n2G ⟨_,k1,p1,k2,p2,rfl,rfl,rfl,hm⟩
  | [],_=>exact fo e
  | [_],[]=>exact fo e
  | [_],_::_::_=>exact fo e
  | _::_::_,_=>exact fo e
 | _=>exact fo e
theorem JjA:∀ {ks:List (Option Expr)}{vs:List Expr},Jhc ks vs=true→ks.all (·.isSome)=true∧ks.length=vs.length∧∀ fE:Expr→QE,(Jmr fE ks vs).length=2*ks.length
 | some k::ks,v::vs,h=>by
  refine Jf fun n1G=>?_;have h:Jhc ks vs=true:=h;obtain⟨h1,h2,h3⟩:=JjA h;refine n1G ?_;clear n1G;refine⟨by simp[h1],by simp[h2],fun fE=>?_⟩;show (fE k::fE v::Jmr fE ks vs).length=_;simp[h3 fE]; omega
 | [],[],_=>⟨rfl,rfl,fun _=>rfl⟩
 | none::_,_,h=>by cases h
 | some _::_,[],h=>by cases h
 | [],_::_,h=>by cases h
structure Jok (c:Jx)(K:Frag)(JB:List Addr)(F:FT'):Prop where
 at_:∀ fi fa q,Js JB fi=some fa→Js F fi=some q→∃ as body fsc,Jp8 c K fa as body fsc∧q.2=body.map (Jbz NT G 40 fsc)∧q.1.length=as.length∧∀ (j:Nat) (x:Nat),q.1[j]?=some x→∃ ar:Arg,as[j]?=some ar∧Js NT x=some ar.arg
 lim:c.h₀.NoLimit
structure All (c:Jx)(F:FT')(JB:List Addr)(n:Nat):Prop where
 E:∀ m sc e,HE c F n sc (Jt NT G m sc e) e
 Es:∀ m sc es,Jw JA es=true→HEs c F n sc (es.map (Jt NT G m sc)) es
 T:∀ m sc e,HT c F n sc (Jt NT G m sc e) e
 Pr:∀ m sc ks vs,Jhc ks vs=true→HPr c F n sc (Jmr (Jt NT G m sc) ks vs) ks vs
 S:∀ m sc s,HS c F n sc (Jbz NT G m sc s) s
 Ss:∀ m sc ss,HSs c F n sc (ss.map (Jbz NT G m sc)) ss
 A:∀ m sc t,HA c F n sc (JdL NT G m sc t) t
 As:∀ m sc ts,Jw JA ts=true→HAs c F n sc (ts.map (JdL NT G m sc)) ts
 call:Jhy c F JB n
theorem Joz:All c F JB 0 where
 E:=fun m sc e=>by intro env f fs A ad st s k Q hE hs hA R e p; cases e
 Es:=fun m sc e _=>by intro env f fs A ad st s k Q pos hE hs hA R e p; cases e
 T:=fun m sc e=>by intro env f fs A ad st s k Q hE hs hA R e p; cases e
 Pr:=fun m sc ks vs _=>by intro env f fs A ad st s k Q pos hE hs hA R e p; cases e
 S:=fun m sc e=>by intro env f fs A ad st s k Q hE hs hA R e p; cases e
 Ss:=fun m sc e=>by intro env f fs A ad st s k Q hE hs hA R e p; cases e
 A:=fun m sc e=>by intro env f fs A ad st s k Q d v hE hs hA R hv e p; cases e
 As:=fun m sc e _=>by intro env f fs A ad st s k Q ds vs hE hs hA R hv e p; cases e
 call:=by intro fi fa h fs hfs A ad st s ds vals k Q hA R z e p; cases e
theorem Jsr (S:JcI c K JB)(Gl:JcH c K JB mg mb)(H:All c F JB n)(m:Nat)(sc:Scope)(e:Expr):HE c F (n+1) sc (Jt NT G m sc e) e:=by
 cases m with
 | zero=>exact J7
 | succ m =>
 cases e with
 | Constant co k0 pos =>
  show HE c F (n+1) sc (match JdO co with | some d=>.const d | none=>.bad) _
  cases h:JdO co with
  | some d=>exact Jm2 h
  | none=>exact J7
 | Name x pos=>exact Jqs Gl
 | BinOp l op r pos=>exact Js9 (H.E m sc l) (H.E m sc r) op
 | UnaryOp op x pos =>
  cases op with
  | Not=>exact JuL (H.E m sc x)
  | USub=>exact JsP (H.E m sc x)
  | _=>exact J7
 | IfExp t a b pos =>
  show HE c F (n+1) sc (match Jmm t a b with
   | some (l,op,r,i,j)=>.itec op (Jt NT G m sc l) (Jt NT G m sc r) i j
   | none=>.ite (Jt NT G m sc t) (Jt NT G m sc a) (Jt NT G m sc b)) _
  cases h:Jmm t a b with
  | some q =>
   obtain⟨l,op,r,i,j⟩:=q;obtain⟨p,k1,p1,k2,p2,rfl,rfl,rfl,hm⟩:=Jl6 h;exact JrF (H.E m sc l) (H.E m sc r) hm
  | none=>exact JuB (H.T m sc t) (H.E m sc a) (H.E m sc b)
 | BoolOp op vs pos =>
  match vs with
  | []=>exact J7
  | [x]=>exact J7
  | [x,y]=>exact Jo4 (H.E m sc x) (Jup (H.E m sc y))
  | x::y::z::r=>exact Jo4 (H.E m sc x) (H.E m sc (.BoolOp op (y::z::r) pos))
 | Compare l ops rs pos =>
  match ops,rs with
  | [],_=>exact J7
  | [op],[]=>exact J7
  | [op],[r] =>
   show HE c F (n+1) sc (match behindInMarks op r with | false=>.cmp op (Jt NT G m sc l) (Jt NT G m sc r) | true=>.bad) _
   cases hm:behindInMarks op r with
   | false=>exact JsL (H.E m sc l) (H.E m sc r) op hm
   | true=>exact J7
  | [op],_::_::_=>exact J7
  | _::_::_,_=>exact J7
 | Tuple es k0 pos=>exact heB fun h=>Jt7 (H.Es m sc es h)
 | List es pos=>exact heB fun h=>Jrl (H.Es m sc es h)
 | Dict ks vs pos =>
  refine heB fun h=>?_;obtain⟨h1,h2⟩:=Ja.mp h;obtain⟨w1,w2,w3⟩:=JjA h2;have h15:=JbF h1;refine JqS (H.Pr m sc ks vs h2) w1 w2 h15 (by rw[w3]; exact Nat.mul_le_mul_left 2 h15) fun q=>?_;subst q
  cases vs with
  | nil=>rfl
  | cons _ _=>exact ff h2
 | Subscript b sl pos =>
  have plain:Jft sl=true→HE c F (n+1) sc (.sub (Jt NT G m sc b) (Jt NT G m sc sl)) (.Subscript b sl pos):=fun h=>Js7 (H.E m sc b) (H.E m sc sl) h;have hp:∀ o:Option Expr,HP c F n sc (match o with | some e=>Jt NT G m sc e | none=>.const .none) o:=fun o=>by
   cases o with
   | none=>exact JpA
   | some e=>exact JpZ (H.E m sc e)
  cases sl with
  | Slice lo hi stp p0 =>
   cases stp with
   | none=>exact Jns (H.E m sc b) (hp lo) (hp hi)
   | some mm =>
    cases lo with
    | none =>
     cases hi with
     | none =>
      exact heB fun h=>JsV (H.E m sc b) h
     | some _=>exact J7
    | some _=>exact J7
  | _=>exact plain rfl
 | Attribute o x pos =>
  exact heB fun hs=>heO fun i hi=>JqZ S (H.E m sc o) hs (Jcz hi)
 | Call f as ks pos =>
  cases ks with
  | cons _ _=>exact J7
  | nil =>
   cases f with
   | Attribute o x apos =>
    refine heB fun h=>?_;obtain⟨h1,h2⟩:=Ja.mp h;obtain⟨hl,hs⟩:=Ja.mp h1;obtain⟨h1,h2⟩:=Ja.mp h2;refine JqI S Gl (H.E m sc o) hs rfl (H.Es m sc as h2) (Jn h2) (JbF h1) ?_ H.call;rw[nbq hl]; exact beq_self_eq_true _
   | Name x p0 =>
    refine heB fun hst=>?_;refine heB fun hx=>heG fun g hg=>?_;have hx:=JcP hx
    cases g with
    | fn fi=>exact heB fun hlt=>Jqr S Gl hx (Jd3 hg) hg (Nat.blt_eq.mp hlt) (H.Es m sc as hst) (Jn hst) H.call
    | cls ci=>exact JtF S Gl hx (Jd3 hg) hg (H.Es m sc as hst) (Jn hst) H.call
    | bi k=>exact JDr Gl hx (Jd3 hg) hg (H.Es m sc as hst) (Jn hst)
    | _=>exact J7
   | _=>exact J7
 | _=>exact J7
theorem Jad {α:Type}{f:α→Bool}{x:α}{l:List α}(h:Jw f (x::l)=true):f x=true∧Jw f l=true:=by
 have h:@Bool.rec (fun _=>Bool) false (Jw f l) (f x)=true:=h
 cases e:f x with
 | false=>rw[e] at h; exact ff h
 | true=>rw[e] at h; exact⟨rfl,h⟩
theorem Jp3 (H:All c F JB n)(m:Nat)(sc:Scope)(es:List Expr)(h:Jw JA es=true):HEs c F (n+1) sc (es.map (Jt NT G m sc)) es:=by
 cases es with
 | nil=>exact Jqf
 | cons x es=>exact JnU (Jad h).1 (H.E m sc x) (H.Es m sc es (Jad h).2)
theorem JpW (H:All c F JB n)(H':∀ k,k<n→All c F JB k)(m:Nat)(sc:Scope)(ks:List (Option Expr))(vs:List Expr)(hw:Jhc ks vs=true):HPr c F (n+1) sc (Jmr (Jt NT G m sc) ks vs) ks vs:=by
 match ks,vs with
 | [],[]=>exact Jqz
 | some k::ks,v::vs =>
  cases n with
  | zero =>
   intro env f fs A ad st s k Q pos hE hs hA R e p
   cases e
  | succ n=>exact Jn5 (H.E m sc k) ((H' n (Nat.lt_succ_self n)).E m sc v) ((H' n (Nat.lt_succ_self n)).Pr m sc ks vs hw)
 | none::_,_=>exact ff hw
 | some _::_,[]=>exact ff hw
 | [],_::_=>exact ff hw
end
section
variable {c:Jx}{F:FT'}{n:Nat}{sc:Scope}{pos:Pos}{K:Frag}{JB:List Addr}{mg mb:Str→Option Value}
def JcS (q:QE):Bool:=Jaz (orB (Nat.beq q.ctorIdx 3) (Jh (Nat.ble 5 q.ctorIdx) (Nat.ble q.ctorIdx 7)))
theorem JpX {q:QE}(h:JcS q=true)(st:St)(k:Bool→St→Bool):(ev F C (n+1)).T q st k=Jv0 (ev F C n) q st k:=by
 cases q <;> first | rfl | exact ff h
theorem pqB {b:Bool}{A B:QE}(h1:JcS A=true)(h2:JcS B=true):JcS (match b with | true=>A | false=>B)=true:=by
 cases b
 · exact h2
 · exact h1
theorem JkN {x:Str}:JcS (Jea NT G sc x)=true:=by
 unfold Jea
 cases sEq x "__debug__" with
 | true=>rfl
 | false =>
  refine pqB ?_ (pqB ?_ rfl)
  · cases JbO NT x 0 <;> rfl
  · cases JO G x with
    | none=>rfl
    | some g=>cases g <;> rfl
theorem Jke {x:Str}{l:List QE}:JcS (Jny G sc x l)=true:=by
 unfold Jny;refine pqB ?_ rfl
 cases JO G x with
 | none=>rfl
 | some g =>
  cases g with
  | fn f=>exact pqB rfl rfl
  | _=>rfl
theorem JsG (H:All c F JB n)(H':∀ k,k<n→All c F JB k)(m:Nat)(sc:Scope)(e:Expr):HT c F (n+1) sc (Jt NT G m sc e) e:=by
 cases m with
 | zero=>exact Jb5
 | succ m =>
 have val:JcS (Jt NT G (m+1) sc e)=true→(∀ env whole,isTrue e env whole=(do let v ← whole; standAt e.pos; holding [v] (truthy v)))→HT c F (n+1) sc (Jt NT G (m+1) sc e) e:=fun h1 h2=>JvS (H.E (m+1) sc e) (JpX h1) h2
 cases e with
 | Constant co k0 pos =>
  refine val ?_ fun _ _=>rfl;show JcS (match JdO co with | some d=>.const d | none=>.bad)=true
  cases JdO co <;> rfl
 | Name x pos=>exact val JkN fun _ _=>rfl
 | Tuple es k0 pos=>exact val (pqB rfl rfl) fun _ _=>rfl
 | List es pos=>exact val (pqB rfl rfl) fun _ _=>rfl
 | UnaryOp op x pos =>
  cases op with
  | Not=>exact Jum (H.T m sc x)
  | USub=>exact val rfl fun _ _=>rfl
  | _=>exact Jb5
 | IfExp t a b pos =>
  show HT c F (n+1) sc (match Jmm t a b with
   | some (l,op,r,i,j)=>.itec op (Jt NT G m sc l) (Jt NT G m sc r) i j
   | none=>.ite (Jt NT G m sc t) (Jt NT G m sc a) (Jt NT G m sc b)) _
  cases Jmm t a b with
  | some q =>
   intro env f fs A ad st s k Q hE hs hA R e p;exact ff e
  | none=>exact JuN (H.T m sc t) (H.T m sc a) (H.T m sc b)
 | BoolOp op vs pos =>
  match vs with
  | []=>exact Jb5
  | [x]=>exact Jb5
  | [x,y]=>exact JoS (H.T m sc x) (JuX (H.T m sc y))
  | x::y::z::r=>exact JoS (H.T m sc x) (H.T m sc (.BoolOp op (y::z::r) pos))
 | Compare l ops rs pos =>
  match ops,rs with
  | [],_=>exact Jb5
  | [op],[]=>exact Jb5
  | [op],[r] =>
   show HT c F (n+1) sc (match behindInMarks op r with | false=>.cmp op (Jt NT G m sc l) (Jt NT G m sc r) | true=>.bad) _
   cases hm:behindInMarks op r with
   | true=>exact Jb5
   | false =>
    cases n with
    | zero =>
     intro env f fs A ad st s k Q hE hs hA R e p;exact ff e
    | succ n=>exact Juf ((H' n (Nat.lt_succ_self n)).E m sc l) ((H' n (Nat.lt_succ_self n)).E m sc r) op hm
  | [op],_::_::_=>exact Jb5
  | _::_::_,_=>exact Jb5
 | Dict ks vs pos =>
  refine val ?_ fun _ _=>rfl;exact pqB rfl rfl
 | Subscript b sl pos =>
  refine val ?_ fun _ _=>rfl
  cases sl with
  | Slice lo hi stp p0 =>
   cases stp with
   | none=>rfl
   | some mm =>
    cases lo with
    | none =>
     cases hi with
     | none =>
      exact pqB rfl rfl
     | some _=>rfl
    | some _=>rfl
  | _=>rfl
 | Attribute o x pos =>
  refine val ?_ fun _ _=>rfl;refine pqB ?_ rfl
  cases JbO NT x 0 <;> rfl
 | Call f as ks pos =>
  refine val ?_ fun _ _=>rfl
  cases ks with
  | cons _ _=>rfl
  | nil =>
   cases f with
   | Attribute o x apos =>
    exact pqB rfl rfl
   | Name x p0 =>
    exact pqB Jke rfl
   | _=>rfl
 | BinOp l op r pos=>exact val rfl fun _ _=>rfl
 | _=>exact Jb5
def Jge:List Str→Bool
 | []=>true
 | x::r=>Jh (match JbO r x 0 with | none=>true | some _=>false) (Jge r)
theorem JjZ:Jge NT=true:=by decide +kernel
theorem JgZ {x:Str}:∀ {l:List Str}{i n:Nat},Js l i=some x→∃ j,JbO l x n=some j
 | k::r,i,n,e=>by
  show ∃ j,(match sEq k x with | true=>some n | false=>JbO r x (Nat.succ n))=some j
  cases z:sEq k x with
  | true=>exact⟨_,rfl⟩
  | false =>
   cases i with
   | zero=>have e:k=x:=Jp e; rw[JbB.mpr e] at z; exact ff z.symm
   | succ i=>rw[JG] at e; exact JgZ (i:=i) (n:=Nat.succ n) (by rw[JG]; exact e)
theorem JnL:∀ {l:List Str},Jge l=true→∀ x y nm,Js l x=some nm→Js l y=some nm→x=y
 | k::r,h,x,y,nm,hx,hy=>by
  have h1:=And.left (Ja.mp h); have h2:=And.right (Ja.mp h);have none:∀ i,Js r i≠some k:=fun i q=>by
   obtain⟨j,hj⟩:=JgZ (n:=0) q;rw[hj] at h1; exact ff h1
  rw[JG] at hx hy
  cases x with
  | zero =>
   cases y with
   | zero=>rfl
   | succ y=>exact absurd ((JG ..).trans (hy.trans hx.symm)) (none y)
  | succ x =>
   cases y with
   | zero=>exact absurd ((JG ..).trans (hx.trans hy.symm)) (none x)
   | succ y=>rw[JnL h2 x y nm ((JG ..).trans hx) ((JG ..).trans hy)]
theorem JkP:∀ x y nm,Js NT x=some nm→Js NT y=some nm→x=y:=JnL JjZ
theorem JtG (nt:∀ x y nm,Js NT x=some nm→Js NT y=some nm→x=y)(S:JcI c K JB)(H:All c F JB n)(m:Nat)(sc:Scope)(t:Expr):HA c F (n+1) sc (JdL NT G m sc t) t:=by
 cases m with
 | zero=>exact JhK
 | succ m =>
 cases t with
 | Name x pos =>
  exact haB fun hk=>haO fun i hi=>Jrf nt (Jcz hi) (JbC hk)
 | Attribute o x pos =>
  exact haO fun i hi=>Jq1 S (H.E m sc o) (Jcz hi)
 | Subscript o x pos=>exact Ju8 (H.E m sc o) (H.E m sc x)
 | Tuple ts k0 pos =>
  exact haB fun h=>Jub (Jn h) (H.As m sc ts h) (List.length_map _)
 | _=>exact JhK
theorem Jqq (H:All c F JB n)(m:Nat)(sc:Scope)(ts:List Expr)(h:Jw JA ts=true):HAs c F (n+1) sc (ts.map (JdL NT G m sc)) ts:=by
 cases ts with
 | nil=>exact JpE
 | cons x ts=>exact JoF (Jad h).1 (H.A m sc x) (H.As m sc ts (Jad h).2)
theorem Jpq:HS c F (n+1) sc (.ret (.const .none)) (.Return none pos):=by
 intro env f fs A ad st s k Q hE hs hA R e p;refine Jf fun n1G=>?_;have e:(ev F C n).E (.const .none) st (fun d st=>k (.ret d) st)=true:=e
 cases n with
 | zero=>exact ff e
 | succ n =>
  have e:k (.ret .none) st=true:=e;exact n1G (wpAny_Return_none (p ad st s _ (.ret .none) R (.refl _ _ _) ⟨.none,rfl,rfl⟩ e))
theorem JhG {it a:Expr}(h:JdZ G sc it=some a):∃ f p0 p1,it=.Call (.Name f p0) [a] [] p1∧JO sc.names f=some .globalImplicit∧JO G f=some (.bi 4):=by
 refine Jf fun n1G=>?_;unfold JdZ at h
 cases hc:JhH it with
 | none=>rw[hc] at h; exact fo h
 | some p =>
  rw[hc] at h;obtain⟨f,as,ks⟩:=p;obtain⟨q,rfl⟩:=Jjn hc;dsimp only at h
  cases hn:JcV f with
  | none=>rw[hn] at h; exact fo h
  | some x =>
   obtain⟨q0,rfl⟩:=JbY hn;rw[hn] at h;refine n1G ?_;clear n1G
   match as,ks with
   | [b],[] =>
    refine Jf fun n2G=>?_;obtain⟨hr,h⟩:=bmO h;obtain rfl:=Jp h;obtain⟨h1,hr⟩:=bmT hr
    cases hg:JO G x with
    | none=>rw[hg] at hr; exact ff hr
    | some g =>
     rw[hg] at hr
     cases g with
     | bi k =>
      exact n2G ⟨_,_,_,rfl,by rw[Jbo]; exact JcP h1,by rw[hg,nbq hr]⟩
     | _=>exact ff hr
   | [],_=>exact fo h
   | [_],_::_=>exact fo h
   | _::_::_,_=>exact fo h
theorem Jmc {csc:Scope}{t:Expr}{g:Comprehension}{y x:Str}(h:Joh sc csc t pos g y x=true):((g.ifs=[]∧g.is_async=0)∧t.pos.line=pos.line∧JcD g.iter=true)∧(csc.kind=.function∧sc.names.lookup y=some .local)∧(csc.names.any fun (n,k)=>n==y&&(k==.local||k==.cell))=false∧csc.names.lookup x=some .local:=by
 refine Jf fun n1G=>?_;obtain⟨h1,h2⟩:=Ja.mp h;obtain⟨h1,h3⟩:=Ja.mp h1;obtain⟨h2,h4⟩:=Ja.mp h2;obtain⟨a1,a2⟩:=Ja.mp h1;obtain⟨a3,a4⟩:=Ja.mp h3;obtain⟨b1,b2⟩:=Ja.mp h2;obtain⟨b3,b4⟩:=Ja.mp h4;refine n1G ?_;clear n1G;refine⟨⟨⟨?_,JbS.mp a2⟩,nbq a3,a4⟩,⟨?_,JbC b2⟩,?_,JbC b4⟩
 · cases e:g.ifs with
   | nil=>rfl
   | cons _ _=>rw[e] at a1; exact ff a1
 · unfold Jn6 at b1
   cases e:csc.kind with
   | function=>rfl
   | _=>rw[e] at b1; exact ff b1
 · rw[Jbj] at b3;exact (Bool.not_eq_true' _).mp b3
theorem Jo7 {t e:Expr}(h:Jm0 t e=true):(JA t=true∧Jnq t=true)∧JdI e=true∧(Jhn t=true∨Jhn e=true):=by
 obtain⟨h1,h2⟩:=Ja.mp h;obtain⟨h2,h3⟩:=Ja.mp h2;refine⟨Ja.mp h1,h2,?_⟩
 cases z:Jhn t with
 | true=>exact .inl rfl
 | false=>rw[z] at h3; exact .inr h3
theorem JsE (nt:∀ x y nm,Js NT x=some nm→Js NT y=some nm→x=y)(S:JcI c K JB)(Gl:JcH c K JB mg mb)(H:All c F JB n)(H':∀ k,k<n→All c F JB k)(m:Nat)(sc:Scope)(s:Stmt):HS c F (n+1) sc (Jbz NT G m sc s) s:=by
 cases m with
 | zero=>exact Jbw
 | succ m =>
 cases s with
 | Expr e pos =>
  exact hsB fun h=>JpQ (H.E m sc e) h
 | Return e pos =>
  cases e with
  | some e=>exact Jsg (H.E m sc e)
  | none=>exact Jpq
 | Assign ts e pos =>
  match ts with
  | []=>exact Jbw
  | _::_::_=>exact Jbw
  | [t] =>
   have plain:HS c F (n+1) sc (match Jm0 t e with | true=>.asg (JdL NT G m sc t) (Jt NT G m sc e) | false=>.bad) (.Assign [t] e pos):=hsB fun h=>by
    obtain⟨⟨h1,h2⟩,h3,h4⟩:=Jo7 h;refine Jur (H.E m sc e) (H.A m sc t) h3 h1 (Jd2 (fun ts k p q=>?_) fun ts p q=>?_)
    · subst q;exact h4.elim (fun z=>ff z) id
    · subst q;exact ff h2
   cases e with
   | ListComp elt gens csc cpos =>
    match gens with
    | []=>exact Jbw
    | _::_::_=>exact Jbw
    | [⟨tx,it,ifs,as⟩] =>
     refine hsS fun y hy=>hsS fun x hx=>hsB fun hb=>hsL fun fr hfr=>hsO fun yi hyi=>hsO fun xi hxi=>?_;refine Jf fun n1G=>?_;obtain⟨⟨⟨h1,h2⟩,h3,h4⟩,⟨h5,h6⟩,h7,h8⟩:=Jmc hb;obtain⟨py,rfl⟩:=JbY hy;obtain⟨px,rfl⟩:=JbY hx;have h1:ifs=[]:=h1;have h2:as=0:=h2;subst h1 h2;exact n1G (JrC nt (H.E m sc it) h4 (fun k hk=>(H' k hk).E m _ elt) (Jcz hyi) (Jcz hxi) h6 h8 h5 h3 h7 hfr)
   | _=>exact plain
 | AugAssign t op e pos =>
  refine hsS fun x hx=>hsB fun hk=>hsO fun i hi=>?_;obtain⟨p0,rfl⟩:=JbY hx;exact Jus nt (Jcz hi) (JbC hk) (H.E m sc e)
 | If t a b pos=>exact Jxb (H.T m sc t) (H.Ss m sc a) (H.Ss m sc b)
 | For t it body els pos =>
  cases els with
  | cons _ _=>exact Jbw
  | nil =>
   show HS c F (n+1) sc (match JdZ G sc it with
    | some a=>match JA a with | true=>.forr (JdL NT G m sc t) (Jt NT G m sc a) (body.map (Jbz NT G m sc)) | false=>.bad
    | none=>match JcD it with | true=>.for_ (JdL NT G m sc t) (Jt NT G m sc it) (body.map (Jbz NT G m sc)) | false=>.bad) _
   cases hr:JdZ G sc it with
   | some a =>
    refine hsB fun hs=>?_;obtain⟨f,p0,p1,rfl,h1,h2⟩:=JhG hr;rw[Jbo] at h1;exact Jqc Gl h1 (Jd3 h2) h2 (H.E m sc a) hs (fun k hk=>(H' k hk).A m sc t) (fun k hk=>(H' k hk).Ss m sc body)
   | none=>exact hsB fun hs=>JsX (H.E m sc it) hs (fun k hk=>(H' k hk).A m sc t) (fun k hk=>(H' k hk).Ss m sc body)
 | While t body els pos =>
  cases els with
  | cons _ _=>exact Jbw
  | nil=>exact JnZ (fun k hk=>(H' k hk).T m sc t) (fun k hk=>(H' k hk).Ss m sc body)
 | _=>exact Jbw
theorem JqN (H:All c F JB n)(m:Nat)(sc:Scope)(ss:List Stmt):HSs c F (n+1) sc (ss.map (Jbz NT G m sc)) ss:=by
 cases ss with
 | nil=>exact JqA
 | cons x ss=>exact Jnw (H.S m sc x) (H.Ss m sc ss)
theorem JmD (S:JcI c K JB)(T:Jok c K JB F)(H:All c F JB n):Jhy c F JB (n+1):=by
 intro fi fa hfa fs hfs A ad st s ds vals k Q hA R z e p;refine Jf fun n1G=>?_;have e':JcQ F (ev F C n) fi ds st k=true:=e;unfold JcQ at e'
 cases hF:Js F fi with
 | none=>rw[hF] at e'; exact ff e'
 | some q =>
  obtain⟨qas,qb⟩:=q;obtain⟨as,body,fsc,X,h1,h2,h3⟩:=T.at_ fi fa _ hfa hF;have h1:qb=body.map (Jbz NT G 40 fsc):=h1;subst h1;exact n1G (JpY S T.lim X hF h3 h2 (H.Ss 40 fsc body) hfs hA R z e p)
theorem JuP (nt:∀ x y nm,Js NT x=some nm→Js NT y=some nm→x=y)(S:JcI c K JB)(Gl:JcH c K JB mg mb)(T:Jok c K JB F)(n:Nat):All c F JB n:=by
 induction n using Nat.strongRecOn with
 | ind n ih =>
  cases n with
  | zero=>exact Joz
  | succ n =>
   have H:=ih n (Nat.lt_succ_self n);have H':∀ k,k<n→All c F JB k:=fun k hk=>ih k (Nat.lt_succ_of_lt hk);exact⟨Jsr S Gl H,Jp3 H,JsG H H',JpW H H',JsE nt S Gl H H',JqN H,JtG nt S H,Jqq H,JmD S T H⟩
end
namespace H
noncomputable def fArgs (o:Option Stmt):Arguments:=match o with | some (.FunctionDef _ a _ _ _ _ _ _ _ _)=>a | _=>⟨[],[],none,[],[],none,[]⟩
noncomputable def fBody (o:Option Stmt):List Stmt:=match o with | some (.FunctionDef _ _ b _ _ _ _ _ _ _)=>b | _=>[]
noncomputable def fScope (o:Option Stmt):Scope:=match o with | some (.FunctionDef _ _ _ _ _ _ sc _ _ _)=>sc | _=>PySem.Challenge.pw_xw0093_01.main.scope
def fd (i j:Nat)(nm qn:Str)(g:Addr)(cl:List (Str×Addr))(df kd doc pm:Value)(an:Option Addr)(co ct:Value)(bl:Addr):FuncData :=
 ⟨nm,qn,fArgs (Jav prog (i,j)),.stmts (fBody (Jav prog (i,j))),fScope (Jav prog (i,j)),g,cl,df,kd,doc,pm,an,co,ct,bl⟩
noncomputable def e (P:Params)(s:Str)(t:Tok)(v:Value):DictEntry:=⟨PyData.keyHash P s,.str s t,v⟩
noncomputable def n (c:Value)(d:Data):Obj:=⟨c,none,d,#[]⟩
def ja (i j:Nat)(a b:Str):Obj:=n .none (.func (fd i j a b 0 [] .none .none .none .none none .none .none 0))
def jc (l:List Value):Obj:=n .none (.fields ⟨l⟩)
abbrev PO:=Params→Obj
abbrev PK:=Params→List DictEntry
noncomputable def r (a:Addr):Value:=.ref a
noncomputable def s (x:Str)(t:Tok):Value:=.str x t
noncomputable def t (x:String):Value:=.type x
noncomputable def b (x:String):Value:=.builtin x
noncomputable def i (x:Nat):Value:=.int (.ofNat x) 0
noncomputable def w (l:List Nat):Str:=⟨⟨l⟩⟩
noncomputable def alt (l:List (Params→Obj)):List (Params→Obj)×List (Params→Obj):=@List.rec (Params→Obj) (fun _=>List (Params→Obj)×List (Params→Obj)) ([],[]) (fun x _ ih=>@Prod.rec _ _ (fun _=>List (Params→Obj)×List (Params→Obj)) (fun a c=>(x::c,a)) ih) l
def mkT (m:Nat)(P:Params)(l:List (Params→Obj)):BT:=@Nat.rec (fun _=>List (Params→Obj)→BT) (fun _=>.nil) (fun _ ih l=>@List.rec (Params→Obj) (fun _=>BT) .nil (fun x r _=>@Prod.rec _ _ (fun _=>BT) (fun a c=>.node (x P) (ih a) (ih c)) (alt r)) l) m l
noncomputable def dr:Drawn:=⟨0,0,0,0⟩
def z0:=w [95,95,110,97,109,101,95,95]
def z1:=w [98,117,105,108,116,105,110,115]
def z2:=w [95,95,100,111,99,95,95]
def z3:=w [95,95,112,97,99,107,97,103,101,95,95]
def z4:=w [95,95,108,111,97,100,101,114,95,95]
def z5:=w [95,95,115,112,101,99,95,95]
def z6:=w [95,95,98,117,105,108,100,95,99,108,97,115,115,95,95]
def z7:=w [95,95,105,109,112,111,114,116,95,95]
def z8:=w [97,98,115]
def z9:=w [97,108,108]
def z10:=w [97,110,121]
def z11:=w [97,115,99,105,105]
def z12:=w [98,105,110]
def z13:=w [98,114,101,97,107,112,111,105,110,116]
def z14:=w [99,97,108,108,97,98,108,101]
def z15:=w [99,104,114]
def z16:=w [99,111,109,112,105,108,101]
def z17:=w [100,101,108,97,116,116,114]
def z18:=w [100,105,114]
def z19:=w [100,105,118,109,111,100]
def z20:=w [101,118,97,108]
def z21:=w [101,120,101,99]
def z22:=w [102,111,114,109,97,116]
def z23:=w [103,101,116,97,116,116,114]
def z24:=w [103,108,111,98,97,108,115]
def z25:=w [104,97,115,97,116,116,114]
def z26:=w [104,97,115,104]
def z27:=w [104,101,120]
def z28:=w [105,100]
def z29:=w [105,110,112,117,116]
def z30:=w [105,115,105,110,115,116,97,110,99,101]
def z31:=w [105,115,115,117,98,99,108,97,115,115]
def z32:=w [105,116,101,114]
def z33:=w [97,105,116,101,114]
def z34:=w [108,101,110]
def z35:=w [108,111,99,97,108,115]
def z36:=w [109,97,120]
def z37:=w [109,105,110]
def z38:=w [110,101,120,116]
def z39:=w [97,110,101,120,116]
def z40:=w [111,99,116]
def z41:=w [111,114,100]
def z42:=w [112,111,119]
def z43:=w [112,114,105,110,116]
def z44:=w [114,101,112,114]
def z45:=w [114,111,117,110,100]
def z46:=w [115,101,116,97,116,116,114]
def z47:=w [115,111,114,116,101,100]
def z48:=w [115,117,109]
def z49:=w [118,97,114,115]
def z50:=w [78,111,110,101]
def z51:=w [69,108,108,105,112,115,105,115]
def z52:=w [78,111,116,73,109,112,108,101,109,101,110,116,101,100]
def z53:=w [70,97,108,115,101]
def z54:=w [84,114,117,101]
def z55:=w [98,111,111,108]
def z56:=w [109,101,109,111,114,121,118,105,101,119]
def z57:=w [98,121,116,101,97,114,114,97,121]
def z58:=w [98,121,116,101,115]
def z59:=w [99,108,97,115,115,109,101,116,104,111,100]
def z60:=w [99,111,109,112,108,101,120]
def z61:=w [100,105,99,116]
def z62:=w [101,110,117,109,101,114,97,116,101]
def z63:=w [102,105,108,116,101,114]
def z64:=w [102,108,111,97,116]
def z65:=w [102,114,111,122,101,110,115,101,116]
def z66:=w [112,114,111,112,101,114,116,121]
def z67:=w [105,110,116]
def z68:=w [108,105,115,116]
def z69:=w [109,97,112]
def z70:=w [111,98,106,101,99,116]
def z71:=w [114,97,110,103,101]
def z72:=w [114,101,118,101,114,115,101,100]
def z73:=w [115,101,116]
def z74:=w [115,108,105,99,101]
def z75:=w [115,116,97,116,105,99,109,101,116,104,111,100]
def z76:=w [115,116,114]
def z77:=w [115,117,112,101,114]
def z78:=w [116,117,112,108,101]
def z79:=w [116,121,112,101]
def z80:=w [122,105,112]
def z81:=w [95,95,100,101,98,117,103,95,95]
def z82:=w [66,97,115,101,69,120,99,101,112,116,105,111,110]
def z83:=w [66,97,115,101,69,120,99,101,112,116,105,111,110,71,114,111,117,112]
def z84:=w [69,120,99,101,112,116,105,111,110]
def z85:=w [71,101,110,101,114,97,116,111,114,69,120,105,116]
def z86:=w [75,101,121,98,111,97,114,100,73,110,116,101,114,114,117,112,116]
def z87:=w [83,121,115,116,101,109,69,120,105,116]
def z88:=w [65,114,105,116,104,109,101,116,105,99,69,114,114,111,114]
def z89:=w [65,115,115,101,114,116,105,111,110,69,114,114,111,114]
def z90:=w [65,116,116,114,105,98,117,116,101,69,114,114,111,114]
def z91:=w [66,117,102,102,101,114,69,114,114,111,114]
def z92:=w [69,79,70,69,114,114,111,114]
def z93:=w [73,109,112,111,114,116,69,114,114,111,114]
def z94:=w [76,111,111,107,117,112,69,114,114,111,114]
def z95:=w [77,101,109,111,114,121,69,114,114,111,114]
def z96:=w [78,97,109,101,69,114,114,111,114]
def z97:=w [79,83,69,114,114,111,114]
def z98:=w [82,101,102,101,114,101,110,99,101,69,114,114,111,114]
def z99:=w [82,117,110,116,105,109,101,69,114,114,111,114]
def JNc:=w [83,116,111,112,65,115,121,110,99,73,116,101,114,97,116,105,111,110]
def JLJ:=w [83,116,111,112,73,116,101,114,97,116,105,111,110]
def JMa:=w [83,121,110,116,97,120,69,114,114,111,114]
def JML:=w [83,121,115,116,101,109,69,114,114,111,114]
def JLk:=w [84,121,112,101,69,114,114,111,114]
def JHc:=w [86,97,108,117,101,69,114,114,111,114]
def JHB:=w [87,97,114,110,105,110,103]
def JMQ:=w [70,108,111,97,116,105,110,103,80,111,105,110,116,69,114,114,111,114]
def JMS:=w [79,118,101,114,102,108,111,119,69,114,114,111,114]
def JLz:=w [90,101,114,111,68,105,118,105,115,105,111,110,69,114,114,111,114]
def JJO:=w [66,121,116,101,115,87,97,114,110,105,110,103]
def JNa:=w [68,101,112,114,101,99,97,116,105,111,110,87,97,114,110,105,110,103]
def JIx:=w [69,110,99,111,100,105,110,103,87,97,114,110,105,110,103]
def JHs:=w [70,117,116,117,114,101,87,97,114,110,105,110,103]
def JKh:=w [73,109,112,111,114,116,87,97,114,110,105,110,103]
def JLi:=w [80,101,110,100,105,110,103,68,101,112,114,101,99,97,116,105,111,110,87,97,114,110,105,110,103]
def JJt:=w [82,101,115,111,117,114,99,101,87,97,114,110,105,110,103]
def JJ4:=w [82,117,110,116,105,109,101,87,97,114,110,105,110,103]
def JNr:=w [83,121,110,116,97,120,87,97,114,110,105,110,103]
def JHx:=w [85,110,105,99,111,100,101,87,97,114,110,105,110,103]
def JGU:=w [85,115,101,114,87,97,114,110,105,110,103]
def JLT:=w [66,108,111,99,107,105,110,103,73,79,69,114,114,111,114]
def JKl:=w [67,104,105,108,100,80,114,111,99,101,115,115,69,114,114,111,114]
def JJg:=w [67,111,110,110,101,99,116,105,111,110,69,114,114,111,114]
def JMP:=w [70,105,108,101,69,120,105,115,116,115,69,114,114,111,114]
def JMr:=w [70,105,108,101,78,111,116,70,111,117,110,100,69,114,114,111,114]
def JHI:=w [73,110,116,101,114,114,117,112,116,101,100,69,114,114,111,114]
def JI4:=w [73,115,65,68,105,114,101,99,116,111,114,121,69,114,114,111,114]
def JIW:=w [78,111,116,65,68,105,114,101,99,116,111,114,121,69,114,114,111,114]
def JKH:=w [80,101,114,109,105,115,115,105,111,110,69,114,114,111,114]
def JHa:=w [80,114,111,99,101,115,115,76,111,111,107,117,112,69,114,114,111,114]
def JJX:=w [84,105,109,101,111,117,116,69,114,114,111,114]
def JLq:=w [73,110,100,101,110,116,97,116,105,111,110,69,114,114,111,114]
def JHt:=w [95,73,110,99,111,109,112,108,101,116,101,73,110,112,117,116,69,114,114,111,114]
def JNe:=w [73,110,100,101,120,69,114,114,111,114]
def JKX:=w [75,101,121,69,114,114,111,114]
def JL6:=w [77,111,100,117,108,101,78,111,116,70,111,117,110,100,69,114,114,111,114]
def JLB:=w [78,111,116,73,109,112,108,101,109,101,110,116,101,100,69,114,114,111,114]
def JHP:=w [80,121,116,104,111,110,70,105,110,97,108,105,122,97,116,105,111,110,69,114,114,111,114]
def JHQ:=w [82,101,99,117,114,115,105,111,110,69,114,114,111,114]
def JJF:=w [85,110,98,111,117,110,100,76,111,99,97,108,69,114,114,111,114]
def JLH:=w [85,110,105,99,111,100,101,69,114,114,111,114]
def JHr:=w [66,114,111,107,101,110,80,105,112,101,69,114,114,111,114]
def JI6:=w [67,111,110,110,101,99,116,105,111,110,65,98,111,114,116,101,100,69,114,114,111,114]
def JHd:=w [67,111,110,110,101,99,116,105,111,110,82,101,102,117,115,101,100,69,114,114,111,114]
def JLD:=w [67,111,110,110,101,99,116,105,111,110,82,101,115,101,116,69,114,114,111,114]
def JH7:=w [84,97,98,69,114,114,111,114]
def JLe:=w [85,110,105,99,111,100,101,68,101,99,111,100,101,69,114,114,111,114]
def JM7:=w [85,110,105,99,111,100,101,69,110,99,111,100,101,69,114,114,111,114]
def JMv:=w [85,110,105,99,111,100,101,84,114,97,110,115,108,97,116,101,69,114,114,111,114]
def JKT:=w [69,120,99,101,112,116,105,111,110,71,114,111,117,112]
def JMM:=w [69,110,118,105,114,111,110,109,101,110,116,69,114,114,111,114]
def JMk:=w [73,79,69,114,114,111,114]
def JHX:=w [111,112,101,110]
def JHW:=w [113,117,105,116]
def JKD:=w [101,120,105,116]
def JLG:=w [99,111,112,121,114,105,103,104,116]
def JGS:=w [99,114,101,100,105,116,115]
def JJw:=w [108,105,99,101,110,115,101]
def JKr:=w [104,101,108,112]
def JmU:=w [95,95,109,97,105,110,95,95]
def JeQ:=w [95,95,97,110,110,111,116,97,116,105,111,110,115,95,95]
def Jez:=w [95,95,98,117,105,108,116,105,110,115,95,95]
def JeO:=w [95,95,102,105,108,101,95,95]
def Jb:=w [47,99,108,97,105,109,47,99,117,116,46,112,121]
def JpK:=w [95,95,99,97,99,104,101,100,95,95]
def Jqh:=w [60,109,111,100,117,108,101,62]
def JK9:=w [116,121,112,101,46,95,95,115,117,98,99,108,97,115,115,101,115,95,95,46,69,120,99,101,112,116,105,111,110,46,48]
def JLM:=w [116,121,112,101,46,95,95,115,117,98,99,108,97,115,115,101,115,95,95,46,69,120,99,101,112,116,105,111,110,46,110]
def Jcx:=w [102,114,97,109,101,114,117,110,101,46,102,97,117,108,116,115]
def JgS:=w [95,119,97,108,108]
def JpP:=w [76,70,95,78,79,84,89,80,69]
def JpR:=w [76,70,95,67,73,82,67,76,69]
def JqQ:=w [76,70,95,79,86,69,82,82,73,68,69]
def JrH:=w [76,70,95,66,79,85,78,68]
def Jbg:=w [82,117,110,101,69,114,114,111,114]
def JI:=w [107]
def Jai:=w [95,95,109,111,100,117,108,101,95,95]
def Jb8:=w [95,95,113,117,97,108,110,97,109,101,95,95]
def Jag:=w [95,95,102,105,114,115,116,108,105,110,101,110,111,95,95]
def z180:=w [95,95,105,110,105,116,95,95]
def Jah:=w [95,95,115,116,97,116,105,99,95,97,116,116,114,105,98,117,116,101,115,95,95]
def JR:=w [115,101,108,102]
def JFJ:=w [99,111,100,101]
def Jdk:=w [97,116]
def JuD:=w [82,117,110,101,69,114,114,111,114,46,95,95,105,110,105,116,95,95]
def Ja8:=w [95,95,119,101,97,107,114,101,102,95,95]
def JgI:=w [66,97,100,75,105,110,100]
def Jgd:=w [76,111,97,100,70,97,117,108,116]
def JgF:=w [84,111,111,68,101,101,112]
def z190:=w [102,114,97,109,101,114,117,110,101,46,107,105,110,100,115]
def JiM:=w [76,101,102,116,79,117,116]
def Jw1:=w [86,79,73,68]
def JxC:=w [66,79,79,76]
def JEw:=w [67,72,65,82]
def JCL:=w [73,49]
def Jyn:=w [85,49]
def JBv:=w [73,50]
def JFE:=w [85,50]
def Jzh:=w [73,52]
def Jym:=w [85,52]
def JFm:=w [73,56]
def JAk:=w [85,56]
def JBf:=w [78,73,78,84]
def JCp:=w [79,66,74,69,67,84]
def Jua:=w [83,84,82,73,78,71]
def JvI:=w [78,85,76,76,75]
def JtY:=w [66,65,68]
def JuF:=w [80,82,73,77,95,69,78,68]
def Ju7:=w [82,95,80,82,73,77]
def Ju4:=w [82,95,67,76,65,83,83]
def Jxu:=w [82,95,86,65,76,85,69]
def JCf:=w [82,95,65,82,82,65,89]
def Jw2:=w [82,95,66,89,82,69,70]
def JEb:=w [82,95,86,65,82]
def JDL:=w [82,95,77,86,65,82]
def JBk:=w [82,95,66,79,88,69,68]
def JCg:=w [82,95,82,79,82,69,70]
def JBB:=w [82,95,70,84,78]
def JwR:=w [82,95,82,65,87]
def JEG:=w [68,69,69,80,69,83,84,95,75,73,78,68]
def Jqx:=w [72,69,65,86,73,69,83,84,95,75,73,78,68]
def Jqt:=w [80,82,73,77,95,84,73,68]
def Juj:=w [84,73,68,95,80,82,73,77]
def JtA:=w [65,82,82,65,89,95,84,73,68]
def JvR:=w [78,85,76,76,65,66,76,69,95,84,73,68]
def JiS:=w [75,105,110,100,84,97,98,108,101]
def z227:=w [105,110,110,101,114,95,107,105,110,100,115]
def z228:=w [114,111,119,95,108,101,118,101,108]
def z229:=w [114,111,119,95,108,101,110,103,116,104]
def z230:=w [114,111,119]
def z231:=w [112,117,116]
def JiR:=w [110,117,109,98,101,114]
def z233:=w [75,105,110,100,84,97,98,108,101,46,95,95,105,110,105,116,95,95]
def z234:=w [75,105,110,100,84,97,98,108,101,46,114,111,119]
def Jl5:=w [102,111,117,110,100]
def JLx:=w [100,101,112,116,104]
def JH9:=w [119,101,105,103,104,116]
def JKf:=w [111,112,101,110,101,100]
def JHK:=w [108,101,118,101,108]
def JfP:=w [105,110,110,101,114]
def z241:=w [75,105,110,100,84,97,98,108,101,46,112,117,116]
def JI8:=w [100,101,112,116,104,115]
def JMg:=w [105,110,100,101,120]
def JLX:=w [111,112,101,110,115]
def Jl4:=w [114,111,119,115]
def JLK:=w [119,101,105,103,104,116,115]
def Jbp:=w [95,95,100,105,99,116,95,95]
def z248:=w [115,111,114,116]
def z249:=w [99,104,101,99,107,95,107,105,110,100,95,114,111,119]
def z250:=w [99,104,101,99,107,95,110,97,109,101,100]
def z251:=w [99,104,101,99,107,95,97,114,103,115]
def z252:=w [109,97,121,95,115,116,97,110,100]
def z253:=w [99,108,97,115,115,95,107,105,110,100]
def z254:=w [118,97,108,117,101,95,107,105,110,100]
def JjQ:=w [112,114,105,109,95,107,105,110,100]
def z256:=w [118,97,114,95,107,105,110,100]
def z257:=w [107,105,110,100,95,115,111,114,116]
def Jil:=w [101,108,101,109,95,111,102]
def z259:=w [116,105,100,95,111,102]
def z260:=w [97,114,103,115,95,111,102]
def z261:=w [105,115,95,118,97,108,117,101]
def Jbf:=w [107,116]
def Jju:=w [97,114,103,115]
def JMy:=w [97,114,103]
def JhC:=w [116,105,100]
def JBb:=w [105]
def z267:=w [102,114,97,109,101,114,117,110,101,46,115,116,111,114,101]
def z268:=w [105,115,95,114,101,102]
def z269:=w [105,115,95,118,97,114]
def z270:=w [99,108,111,115,101]
def z271:=w [99,108,111,115,101,95,105,110]
def z272:=w [119,105,116,104,95,105,110,110,101,114]
def Ji9:=w [98,111,120,95,111,102]
def z274:=w [112,105,99,107,95,97,114,103]
def JjK:=w [99,108,111,115,101,95,97,108,108]
def JEK:=w [83,95,67,76,65,83,83]
def JwH:=w [83,95,83,84,82,85,67,84]
def Jyw:=w [83,95,73,70,65,67,69]
def JFr:=w [83,95,69,78,85,77]
def JAE:=w [71,66,95,67,76,65,83,83]
def JBF:=w [70,70,95,83,84,65,84,73,67]
def JCl:=w [70,70,95,73,78,73,84,79,78,76,89]
def Jxq:=w [70,70,95,76,73,84,69,82,65,76]
def JzP:=w [77,70,95,83,84,65,84,73,67]
def JyI:=w [77,70,95,86,73,82,84,85,65,76]
def Jte:=w [77,70,95,78,69,87,83,76,79,84]
def JtM:=w [77,70,95,65,66,83,84,82,65,67,84]
def Jtd:=w [77,70,95,70,73,78,65,76]
def Jsv:=w [84,95,79,66,74,69,67,84]
def Jop:=w [116,97,114,103,115]
def Jt8:=w [109,97,114,103,115]
def JlT:=w [115,101,101,110]
def JKZ:=w [112,97,114,116]
def Jmw:=w [112,108,97,99,101]
def JJu:=w [107,115]
def Jkp:=w [111,117,116]
def Jzl:=w [84,95,86,65,76,85,69,84,89,80,69]
def JzX:=w [84,95,69,78,85,77]
def JB4:=w [84,95,65,82,82,65,89]
def JiH:=w [70,105,101,108,100,68,101,102]
def Jqy:=w [102,105,100]
def Joi:=w [111,119,110,101,114]
def Jd7:=w [110,97,109,101]
def Jcr:=w [107,105,110,100]
def JwC:=w [97,99,99,101,115,115]
def Jia:=w [102,108,97,103,115]
def z307:=w [70,105,101,108,100,68,101,102,46,95,95,105,110,105,116,95,95]
def JvN:=w [118,97,108,117,101]
def JgJ:=w [83,116,111,114,101]
def z310:=w [115,101,108,102,95,107,105,110,100]
def JhS:=w [107,105,110,100,95,119,105,116,104]
def Jij:=w [116,121,112,101,95,111,102]
def JhX:=w [102,105,110,100,95,109,101,116,104,111,100,115]
def Jit:=w [98,97,115,101,95,111,102]
def z315:=w [83,116,111,114,101,46,95,95,105,110,105,116,95,95]
def JMN:=w [97,115,109,115]
def JG8:=w [101,110,116,114,121]
def JMX:=w [102,105,101,108,100,115,95]
def JNd:=w [109,101,116,104,111,100,115]
def JIi:=w [110,97,109,101,115]
def Jyx:=w [116,121,112,101,115]
def Ja7:=w [115,116,111,114,101]
def JnW:=w [116]
def Jgp:=w [109,105,100]
def JcJ:=w [102,114,97,109,101,114,117,110,101,46,118,116,97,98,108,101]
def Jjx:=w [98,97,115,101,95,111,102,95,112,114,105,109]
def z327:=w [102,105,101,108,100,95,107,105,110,100]
def JjC:=w [109,101,116,104,111,100,95,115,105,103]
def JE9:=w [65,95,80,82,73,86,65,84,69]
def Jy0:=w [65,95,70,65,77,65,78,68,65,83,77]
def Jx5:=w [65,95,65,83,83,69,77,66,76,89]
def JwV:=w [65,95,70,65,77,73,76,89]
def Jzs:=w [65,95,70,65,77,79,82,65,83,77]
def JA6:=w [65,95,80,85,66,76,73,67]
def JEp:=w [86,65,76,85,69,95,82,79,79,84,83]
def z336:=w [98,111,117,110,100,95,107,105,110,100,115]
def z337:=w [115,117,114,101,108,121,95,99,108,97,115,115]
def z338:=w [105,115,95,105,102,97,99,101]
def Jiv:=w [98,97,115,101,95,99,104,97,105,110]
def JiP:=w [108,101,118,101,108,115,95,111,102]
def Jzv:=w [102,114,101,102]
def JF6:=w [102]
def Jvj:=w [109,114,101,102]
def Jky:=w [109]
def Jf5:=w [104,111,115,116]
def JMO:=w [116,111,100,111]
def JvY:=w [98]
def z348:=w [102,114,97,109,101,114,117,110,101,46,107,105,110,100,108,105,110,101]
def JLg:=w [102,114,97,109,101,114,117,110,101,46,108,97,121,111,117,116]
def JFM:=w [82,69,65,67,72]
def Jyq:=w [82,69,65,67,72,95,69,76,83,69,87,72,69,82,69]
def JhT:=w [86,84,97,98,108,101]
def JiD:=w [116,97,98,108,101,95,108,101,118,101,108,115]
def JiB:=w [111,112,101,110,95,108,105,110,101]
def JsS:=w [86,84,97,98,108,101,46,95,95,105,110,105,116,95,95]
def JIm:=w [115,108,111,116,115]
def JF7:=w [108,101,118,101,108,115]
def z358:=w [102,114,97,109,101,114,117,110,101,46,99,115,110,111,100,101,115]
def Jj3:=w [118,116,97,98,108,101,95,111,102]
def Jjk:=w [112,117,116,95,108,101,118,101,108]
def Jka:=w [112,117,116,95,109,101,116,104,111,100]
def Jjz:=w [112,117,116,95,105,109,112,108]
def Jjw:=w [105,115,95,105,110,115,116,97,110,99,101,95,98,111,100,121]
def JjT:=w [111,118,101,114,114,105,100,100,101,110]
def Jik:=w [99,111,117,108,100,95,111,118,101,114,114,105,100,101]
def JhP:=w [110,111,95,115,116,114,105,99,116,101,114]
def Jii:=w [115,97,109,101,95,115,105,103,110,97,116,117,114,101]
def Jiz:=w [110,97,114,114,111,119,101,114]
def Jid:=w [115,108,111,116,95,111,102]
def Jvd:=w [78,95,78,65,77,69]
def JlZ:=w [118,116]
def Jqb:=w [108,105,110,101]
def JE8:=w [111,108,100]
def z374:=w [98,97,115,101]
def JKk:=w [98,111,100,121]
def JK0:=w [100,101,99,108,95,111,119,110,101,114]
def JHy:=w [100,101,99,108]
def JJ0:=w [111,119,110]
def Jx9:=w [115,108,111,116]
def JMA:=w [108,97,115,116]
def JJn:=w [97,98,111,118,101]
def JvD:=w [111,116,104,101,114]
def JCn:=w [111,119,110,101,114,49]
def JE1:=w [109,105,100,49]
def JC5:=w [111,119,110,101,114,50]
def Jxj:=w [109,105,100,50]
def JKP:=w [98,111,117,110,100,115,49]
def JHj:=w [98,111,117,110,100,115,50]
def JIA:=w [104,97,118,101]
def JJH:=w [98,121,95,110,97,109,101]
def JAR:=w [120]
def JH3:=w [121]
def JGQ:=w [101,108,115,101,119,104,101,114,101]
def JB7:=w [78,95,76,73,83,84]
def Jh7:=w [78,111,100,101]
def Jzf:=w [97]
def JDk:=w [107,105,100,115]
def JzD:=w [109,111,100,115]
def z399:=w [78,111,100,101,46,95,95,105,110,105,116,95,95]
def JGM:=w [110,105,100]
def z401:=w [102,114,97,109,101,114,117,110,101,46,99,115,98,111,117,110,100]
def Jip:=w [68,105,97,103,115]
def Jxn:=w [88,95,67,79,78,83,84]
def JzE:=w [88,95,76,79,67,65,76]
def JBQ:=w [88,95,84,72,73,83]
def JFX:=w [88,95,70,73,69,76,68]
def JCb:=w [88,95,83,70,73,69,76,68]
def JBa:=w [88,95,67,65,76,76]
def Jy4:=w [88,95,66,73,78]
def JnP:=w [88,95,67,79,78,86]
def JnG:=w [99,117,116]
def Jmx:=w [110,117,109,98,101,114,115]
def z413:=w [68,105,97,103,115,46,95,95,105,110,105,116,95,95]
def JmJ:=w [119,111,114,100,115]
def z415:=w [68,105,97,103,115,46,112,117,116]
def JIt:=w [99,111,117,110,116]
def Jts:=w [68,105,97,103,115,46,99,117,116]
def JvT:=w [68,105,97,103,115,46,110,117,109,98,101,114,115]
def z419:=w [102,114,97,109,101,114,117,110,101,46,99,115,99,111,114,101]
def Jp2:=w [88,95,80,82,79,80]
def JqK:=w [67,86,95,82,69,70]
def JqU:=w [67,86,95,78,85,76,76]
def Jgu:=w [85,110,105,116]
def Jqi:=w [67,88,95,68,69,69,80,69,83,84]
def JjL:=w [97,115,109]
def z426:=w [85,110,105,116,46,95,95,105,110,105,116,95,95]
def JNq:=w [99,111,110,115,116,115]
def JDO:=w [100,105,97,103,115]
def JJT:=w [102,110,115]
def JGP:=w [105,110,105,116,115]
def JHi:=w [111,102,95,109,105,100]
def JIC:=w [115,105,110,105,116,115]
def JgL:=w [74,117,100,103,101]
def z434:=w [102,105,116,115]
def Jn4:=w [98,111,100,121,95,107,105,110,100]
def JaR:=w [99,120]
def JaN:=w [110,111,100,101]
def Jul:=w [74,117,100,103,101,46,102,105,116,115]
def Jpr:=w [107,105,110,100,115]
def Jtl:=w [74,117,100,103,101,46,98,111,100,121,95,107,105,110,100]
def Jio:=w [84,117,114,110,101,114]
def z442:=w [99,111,110,118,101,114,116]
def JnB:=w [99,97,110]
def JoB:=w [115,117,114,101]
def Jno:=w [109,97,121,95,98,101]
def Jnv:=w [105,115,95,101,110,117,109]
def JgG:=w [117,110,100,101,114]
def JnN:=w [103,111,118,101,114,110,115]
def JmV:=w [110,101,118,101,114,95,110,117,108,108]
def JnT:=w [101,113,117,97,108]
def Jm3:=w [115,101,116,116,108,101]
def z452:=w [84,117,114,110,101,114,46,95,95,105,110,105,116,95,95]
def Jfb:=w [101]
def Jtx:=w [101,120,112,108,105,99,105,116]
def z455:=w [84,117,114,110,101,114,46,99,111,110,118,101,114,116]
def JtJ:=w [84,117,114,110,101,114,46,99,97,110]
def JBj:=w [115]
def Jvu:=w [84,117,114,110,101,114,46,115,117,114,101]
def Juv:=w [84,117,114,110,101,114,46,109,97,121,95,98,101]
def Jui:=w [84,117,114,110,101,114,46,105,115,95,101,110,117,109]
def Juh:=w [84,117,114,110,101,114,46,117,110,100,101,114]
def JtI:=w [84,117,114,110,101,114,46,105,110,110,101,114]
def Jt5:=w [84,117,114,110,101,114,46,103,111,118,101,114,110,115]
def JvZ:=w [84,117,114,110,101,114,46,110,101,118,101,114,95,110,117,108,108]
def JMG:=w [108]
def JJU:=w [114]
def Jtk:=w [84,117,114,110,101,114,46,101,113,117,97,108]
def Js8:=w [84,117,114,110,101,114,46,115,101,116,116,108,101]
def JLa:=w [103,111,101,115]
def JID:=w [105,110,110,101,114,115]
def JJP:=w [115,97,109,101,115]
def JFD:=w [117,110,100,101,114,115]
def Jed:=w [70,105,116,116,101,114]
def z474:=w [102,105,116]
def z475:=w [70,105,116,116,101,114,46,102,105,116]
def Jer:=w [75,101,101,112,101,114]
def JdQ:=w [107,101,112,116]
def Js4:=w [75,101,101,112,101,114,46,107,101,112,116]
def Jdj:=w [89,97,114,100]
def z480:=w [102,97,117,108,116]
def z481:=w [115,104,111,119]
def Ji4:=w [117,110,105,116]
def Jug:=w [89,97,114,100,46,95,95,105,110,105,116,95,95]
def JsU:=w [89,97,114,100,46,107,105,110,100]
def JvX:=w [89,97,114,100,46,102,97,117,108,116]
def z486:=w [89,97,114,100,46,115,104,111,119]
def JtB:=w [89,97,114,100,46,107,101,112,116]
def Jtw:=w [101,97,114,108,121]
def JlV:=w [115,116,97,116,105,99]
def JmI:=w [116,111,108,100]
def Ju2:=w [116,112,97,114,97,109,115]
def Jt3:=w [117,110,109,101,116]
def JdP:=w [80,101,119]
def JgU:=w [101,120,112,114]
def Jvq:=w [80,101,119,46,95,95,105,110,105,116,95,95]
def Jzo:=w [119,97,110,116]
def Jvx:=w [80,101,119,46,101,120,112,114]
def JuO:=w [80,101,119,46,102,105,116,115]
def Js1:=w [80,101,119,46,99,111,110,118,101,114,116]
def Jpw:=w [99,104,101,99,107,101,100]
def JCc:=w [100,101,101,112]
def JBm:=w [101,120,112,114,115]
def JBs:=w [102,110]
def JEF:=w [102,114,101,101]
def Jwv:=w [116,117,114,110,101,114]
def JgP:=w [83,101,97,116]
def JoH:=w [115,116,109,116]
def JoC:=w [100,101,99,108,97,114,101]
def Jnt:=w [102,105,110,100]
def JoX:=w [112,117,115,104,95,115,99,111,112,101]
def Jpc:=w [112,111,112,95,115,99,111,112,101]
def z512:=w [83,101,97,116,46,95,95,105,110,105,116,95,95]
def JsD:=w [83,101,97,116,46,101,120,112,114]
def Jtu:=w [83,101,97,116,46,115,116,109,116]
def JsY:=w [83,101,97,116,46,107,105,110,100]
def z516:=w [83,101,97,116,46,102,105,116,115]
def JtT:=w [83,101,97,116,46,99,111,110,118,101,114,116]
def z518:=w [83,101,97,116,46,102,97,117,108,116]
def JtV:=w [83,101,97,116,46,107,101,112,116]
def Jsh:=w [83,101,97,116,46,100,101,99,108,97,114,101]
def Jtm:=w [83,101,97,116,46,102,105,110,100]
def Jvp:=w [83,101,97,116,46,112,117,115,104,95,115,99,111,112,101]
def JuW:=w [83,101,97,116,46,112,111,112,95,115,99,111,112,101]
def JJj:=w [98,108,111,99,107,115]
def JLL:=w [99,108,111,115,101,100]
def JMu:=w [102,105,116,116,101,114]
def JD1:=w [105,110,105,116]
def JLC:=w [106,117,100,103,101]
def JMh:=w [107,101,101,112,101,114]
def JJV:=w [108,111,111,112,115]
def JKL:=w [110,111,116,101,115]
def JMi:=w [115,99,111,112,101,115]
def JJN:=w [115,116,109,116,115]
def JIw:=w [116,97,114,103,101,116,115]
def z535:=w [102,114,97,109,101,114,117,110,101,46,99,115,109,101,109,98,101,114]
def z536:=w [98,97,100]
def z537:=w [116,117,114,110,95,98,121,95,114,111,119,115]
def z538:=w [105,115,95,98,97,100]
def z539:=w [97,116,95,111,102]
def JjS:=w [100,101,101,112,101,114]
def Jkb:=w [98,105,110,100,95,107,105,110,100]
def JAh:=w [71,95,71,82,79,85,80]
def JC9:=w [71,95,69,86,69,78,84]
def JEz:=w [77,66,95,70,73,69,76,68]
def JzC:=w [77,66,95,80,82,79,80]
def JEn:=w [77,66,95,69,86,69,78,84]
def JE0:=w [77,66,95,71,82,79,85,80]
def Jxm:=w [77,66,95,72,73,68,68,69,78]
def JDe:=w [77,66,95,84,87,79]
def JxI:=w [71,72,95,84,72,73,83]
def JyG:=w [71,72,95,84,89,80,69]
def JEl:=w [71,72,95,79,66,74]
def JFd:=w [71,72,95,66,65,83,69]
def JEY:=w [71,72,95,66,79,84,72]
def z555:=w [116,101,108,108,95,102,97,117,108,116]
def z556:=w [105,115,95,111,118,101,114,114,105,100,101]
def JGY:=w [116,97,98,108,101]
def JLI:=w [99,118]
def JMq:=w [114,117,108,101]
def Jj1:=w [104,97,115,95,115,108,111,116]
def z561:=w [112,114,111,112,95,109,105,100]
def z562:=w [116,104,114,111,117,103,104,95,107,105,110,100]
def z563:=w [116,104,105,115,95,101,120,112,114]
def z564:=w [110,101,101,100,95,111,98,106]
def z565:=w [99,97,108,108,95,114,101,99,101,105,118,101,114]
def z566:=w [99,111,110,115,116,95,102,105,101,108,100]
def z567:=w [114,97,119,95,102,105,101,108,100]
def Jir:=w [115,97,109,101,95,112,114,111,112]
def JiG:=w [98,97,115,101,95,97,99,99,101,115,115,111,114]
def z570:=w [97,99,99,101,115,115,111,114,95,114,101,102]
def JiC:=w [110,101,97,114,101,115,116,95,111,118,101,114,114,105,100,101]
def JGR:=w [112,108,97,105,110,95,111,110,101]
def Jjt:=w [111,98,106]
def Jh5:=w [104,111,119]
def JKS:=w [103,111,97,108]
def JIs:=w [117,112]
def z577:=w [102,114,97,109,101,114,117,110,101,46,107,105,110,100,114,101,108]
def z578:=w [114,97,119,95,112,114,111,112]
def z579:=w [114,97,119,95,102,111,117,110,100]
def JL4:=w [103,101,116,116,101,114]
def JI9:=w [115,101,116,116,101,114]
def JIa:=w [111,110,101]
def JLV:=w [116,97,107,101,110]
def JfZ:=w [66,97,114,101,72,111,115,116]
def Jnp:=w [105,102,97,99,101,115,95,97,116]
def Jnr:=w [118,97,114,105,97,110,99,101]
def Jnj:=w [104,97,115,95,110,101,119]
def z588:=w [66,97,114,101,72,111,115,116,46,95,95,105,110,105,116,95,95]
def z589:=w [66,97,114,101,72,111,115,116,46,98,97,115,101]
def Jt4:=w [66,97,114,101,72,111,115,116,46,105,102,97,99,101,115,95,97,116]
def z591:=w [66,97,114,101,72,111,115,116,46,115,111,114,116]
def Jsy:=w [66,97,114,101,72,111,115,116,46,118,97,114,105,97,110,99,101]
def JuE:=w [66,97,114,101,72,111,115,116,46,117,110,100,101,114]
def Ju6:=w [66,97,114,101,72,111,115,116,46,104,97,115,95,110,101,119]
def JHN:=w [98,97,115,101,115]
def JLS:=w [98,111,117,110,100,115]
def JHu:=w [103,102,108,97,103,115]
def JM8:=w [105,102,97,99,101,115]
def JHm:=w [110,101,119,115]
def JLF:=w [115,111,114,116,115]
def JJG:=w [118,97,114,105,97,110,99,101,115]
def z602:=w [108,97,119,95,120,119,48,48,57,51,95,48,49]
def Jue:=w [95,108,97,119,95,82,65,78,71,69,83]
def Jtj:=w [95,108,97,119,95,70,73,82,83,84]
def z605:=w [95,108,97,119,95,100,105,103,105,116,115]
def z606:=w [95,108,97,119,95,119,111,114,108,100]
def JHC:=w [110]
def JNo:=w [108,111,111,115,101]
def JKV:=w [104,101,105,114]
def JI3:=w [98,111,120]
def JHS:=w [102,97,99,101]
def JLn:=w [102,105,114,109]
def JH6:=w [109,97,114,107,101,100]
def JIG:=w [115,112,111,116,115]
def z615:=w [95,108,97,119,95,97,99,99,101,115,115,111,114]
def z616:=w [95,108,97,119,95,102,105,101,108,100]
def z617:=w [95,108,97,119,95,112,114,111,112]
def z618:=w [95,108,97,119,95,101,118,101,110,116]
def z619:=w [95,108,97,119,95,102,111,117,110,100]
def z620:=w [95,108,97,119,95,115,112,111,116]
def z621:=w [95,108,97,119,95,103,105,118,101,110]
def z622:=w [95,108,97,119,95,108,111,115,116]
def z623:=w [95,108,97,119,95,116,104,105,115]
def z624:=w [95,108,97,119,95,116,117,114,110,101,100]
def z625:=w [95,108,97,119,95,99,97,108,108,101,100]
def JgK:=w [119]
def Jmb:=w [115,112,111,116]
def JkH:=w [97,115,107]
def JL3:=w [102,111,114,109]
def JHT:=w [112,97,114,116,115]
def JKe:=w [103,105,118,101,110]
def JJa:=w [112,117,116,95,105,110]
def JsO:=w [107,110,111,119]
def JJo:=w [97,100,100,101,114]
def JMY:=w [114,101,109,111,118,101,114]
def JpH:=w [115,116,97,110,100]
def JMb:=w [109,111,111,100]
def z638:=w [95,108,97,119,95,100,117,101]
def z639:=w [95,108,97,119,95,97,115,107,101,100]
def z640:=w [108,97,119]
def JIk:=w [119,97,121]
def JHL:=w [115,101,97,116]
def JIn:=w [119,114,105,116,116,101,110]
def JMj:=w [100,117,101]
def JIH:=w [103,111,116]
noncomputable def q0:String:="builtins.__doc__:str#opaque"
noncomputable def q1:String:="builtins.__package__:str#opaque"
noncomputable def q2:String:="builtins.__loader__:shared#opaque"
noncomputable def q3:String:=PySem.W.SL.s11665532747177232413x24
noncomputable def q4:String:=PySem.W.SL.s15183661809925369436x15
noncomputable def q5:String:=PySem.W.SL.s13915890719876406383x10
noncomputable def q6:String:=PySem.W.SL.s13459172003223722735x3
noncomputable def q7:String:=PySem.W.SL.s10557405761357834076x3
noncomputable def q8:String:=PySem.W.SL.s4233737765568776869x3
noncomputable def q9:String:=PySem.W.SL.s2508922471967985374x5
noncomputable def q10:String:=PySem.W.SL.s15574269061696679450x3
noncomputable def q11:String:=PySem.W.SL.s6016482663378992977x10
noncomputable def q12:String:=PySem.W.SL.s5596568736180474577x8
noncomputable def q13:String:=PySem.W.SL.s2839554839881490554x3
noncomputable def q14:String:=PySem.W.SL.s725004073602090463x7
noncomputable def q15:String:=PySem.W.SL.s9436932552931045734x7
noncomputable def q16:String:=PySem.W.SL.s2754603736356183583x3
noncomputable def q17:String:=PySem.W.SL.s15185746759980889043x6
noncomputable def q18:String:=PySem.W.SL.s8192189862530294059x4
noncomputable def q19:String:=PySem.W.SL.s7038307821325472102x4
noncomputable def q20:String:=PySem.W.SL.s5662562618415449548x6
noncomputable def q21:String:=PySem.W.SL.s15281542589158584767x7
noncomputable def q22:String:=PySem.W.SL.s17651547275483570877x7
noncomputable def q23:String:=PySem.W.SL.s4036449017235975746x7
noncomputable def q24:String:=PySem.W.SL.s8879979712987360175x4
noncomputable def q25:String:=PySem.W.SL.s1801250619170735830x3
noncomputable def q26:String:=PySem.W.SL.s17659931425627118568x2
noncomputable def q27:String:=PySem.W.SL.s6063217899685152688x5
noncomputable def q28:String:=PySem.W.SL.s8008927332132565319x10
noncomputable def q29:String:=PySem.W.SL.s3544116645089599534x10
noncomputable def q30:String:=PySem.W.SL.s13761710972054866084x4
noncomputable def q31:String:=PySem.W.SL.s12896375587409280029x5
noncomputable def q32:String:=PySem.W.SL.s13014049009108672802x3
noncomputable def q33:String:=PySem.W.SL.s13935586738268321596x6
noncomputable def q34:String:=PySem.W.SL.s8200498257699607233x3
noncomputable def q35:String:=PySem.W.SL.s14114244577727609259x3
noncomputable def q36:String:=PySem.W.SL.s1499430450269397089x4
noncomputable def q37:String:=PySem.W.SL.s8755793994789770505x5
noncomputable def q38:String:=PySem.W.SL.s15725212667919936108x3
noncomputable def q39:String:=PySem.W.SL.s15791221867095933363x3
noncomputable def q40:String:=PySem.W.SL.s81309575031448614x3
noncomputable def q41:String:=PySem.W.SL.s8069831620301644142x5
noncomputable def q42:String:=PySem.W.SL.s10061844253413749634x4
noncomputable def q43:String:=PySem.W.SL.s9496514870978017513x5
noncomputable def q44:String:=PySem.W.SL.s8899691144933366716x7
noncomputable def q45:String:=PySem.W.SL.s15201008993051130160x6
noncomputable def q46:String:=PySem.W.SL.s741896355592496720x3
noncomputable def q47:String:=PySem.W.SL.s17925004256654032244x4
noncomputable def q48:String:=PySem.W.SL.s11695548795398191787x4
noncomputable def q49:String:=PySem.W.SL.s4156966113859768872x10
noncomputable def q50:String:=PySem.W.SL.s9501651726347032510x9
noncomputable def q51:String:=PySem.W.SL.s15722918466584999320x5
noncomputable def q52:String:=PySem.W.SL.s591115383303110208x11
noncomputable def q53:String:=PySem.W.SL.s15721156781594690315x7
noncomputable def q54:String:=PySem.W.SL.s14018661285674007319x4
noncomputable def q55:String:=PySem.W.SL.s14340494229221121180x9
noncomputable def q56:String:=PySem.W.SL.s13429844117177748173x6
noncomputable def q57:String:=PySem.W.SL.s16463266125957815391x5
noncomputable def q58:String:=PySem.W.SL.s4922535414793169389x9
noncomputable def q59:String:=PySem.W.SL.s8101838861749082086x8
noncomputable def q60:String:=PySem.W.SL.s7066276694103001551x3
noncomputable def q61:String:=PySem.W.SL.s9222952809800978799x4
noncomputable def q62:String:=PySem.W.SL.s462964344163437139x3
noncomputable def q63:String:=PySem.W.SL.s2742458400755230247x6
noncomputable def q64:String:=PySem.W.SL.s1438033511350832697x5
noncomputable def q65:String:=PySem.W.SL.s14365286008749172514x8
noncomputable def q66:String:=PySem.W.SL.s3642769012341782148x3
noncomputable def q67:String:=PySem.W.SL.s4674234679698826739x5
noncomputable def q68:String:=PySem.W.SL.s16656946322747308186x12
noncomputable def q69:String:=PySem.W.SL.s10796804682411823810x3
noncomputable def q70:String:=PySem.W.SL.s4290257624100764138x5
noncomputable def q71:String:=PySem.W.SL.s2766695959194262286x5
noncomputable def q72:String:=PySem.W.SL.s17162191345867700912x4
noncomputable def q73:String:=PySem.W.SL.s14339709457334898076x3
noncomputable def q74:String:=PySem.W.SL.s4278001404047624695x13
noncomputable def q75:String:=PySem.W.SL.s6585700554429387442x18
noncomputable def q76:String:=PySem.W.SL.s5946037652744460706x9
noncomputable def q77:String:=PySem.W.SL.s7410770068591931388x13
noncomputable def q78:String:=PySem.W.SL.s11817881795495490833x17
noncomputable def q79:String:=PySem.W.SL.s15679963881808890155x10
noncomputable def q80:String:=PySem.W.SL.s3871700062485845797x15
noncomputable def q81:String:=PySem.W.SL.s7689518266570723881x14
noncomputable def q82:String:=PySem.W.SL.s9001593270443806431x14
noncomputable def q83:String:=PySem.W.SL.s6882542574934516792x11
noncomputable def q84:String:=PySem.W.SL.s14403400214490484960x8
noncomputable def q85:String:=PySem.W.SL.s14457978657717015782x11
noncomputable def q86:String:=PySem.W.SL.s1753610191782819921x11
noncomputable def q87:String:=PySem.W.SL.s14119380538032626715x11
noncomputable def q88:String:=PySem.W.SL.s11437920000406562045x9
noncomputable def q89:String:=PySem.W.SL.s10852414792293593619x7
noncomputable def q90:String:=PySem.W.SL.s14816307405966870543x14
noncomputable def q91:String:=PySem.W.SL.s8682627914449686677x12
noncomputable def q92:String:=PySem.W.SL.s4428170145600203450x18
noncomputable def q93:String:=PySem.W.SL.s5991306692159431302x13
noncomputable def q94:String:=PySem.W.SL.s16067994140765818257x11
noncomputable def q95:String:=PySem.W.SL.s2327743974964600596x11
noncomputable def q96:String:=PySem.W.SL.s2804747833354056582x9
noncomputable def q97:String:=PySem.W.SL.s6070975301684473832x10
noncomputable def q98:String:=PySem.W.SL.s14270485950484850486x7
noncomputable def q99:String:=PySem.W.SL.s12041534306414923332x18
noncomputable def JNb:String:=PySem.W.SL.s2531307568338490285x13
noncomputable def JJ6:String:=PySem.W.SL.s631175304937289666x17
noncomputable def JJz:String:=PySem.W.SL.s5144983644357021410x12
noncomputable def JIT:String:=PySem.W.SL.s18039099521571816885x18
noncomputable def JJR:String:=PySem.W.SL.s6011586214260557989x15
noncomputable def JHe:String:=PySem.W.SL.s5430567037509283100x13
noncomputable def JKn:String:=PySem.W.SL.s8117915138073963741x13
noncomputable def JHz:String:=PySem.W.SL.s3423317712779056401x25
noncomputable def JKi:String:=PySem.W.SL.s2007317383269046180x15
noncomputable def JJQ:String:=PySem.W.SL.s17481586968713580700x14
noncomputable def JJp:String:=PySem.W.SL.s2450899226349176912x13
noncomputable def JIO:String:=PySem.W.SL.s16626165730633575011x14
noncomputable def JJ5:String:=PySem.W.SL.s14288496050688921416x11
noncomputable def JH0:String:=PySem.W.SL.s5735081916595925998x15
noncomputable def JMT:String:=PySem.W.SL.s3865607918536308442x17
noncomputable def JM0:String:=PySem.W.SL.s13337502604062700212x15
noncomputable def JHn:String:=PySem.W.SL.s13114017843053701147x15
noncomputable def JJe:String:=PySem.W.SL.s17467278006356818441x17
noncomputable def JLu:String:=PySem.W.SL.s17722149559621369488x16
noncomputable def JIN:String:=PySem.W.SL.s7855274175708717672x17
noncomputable def JG9:String:=PySem.W.SL.s13351283678309829046x18
noncomputable def JK4:String:=PySem.W.SL.s6668348653404991179x15
noncomputable def JH5:String:=PySem.W.SL.s12913350958174193794x18
noncomputable def JMD:String:=PySem.W.SL.s16115879512475548326x12
noncomputable def JJ9:String:=PySem.W.SL.s15920661018069861047x16
noncomputable def JKy:String:=PySem.W.SL.s10779130036587390575x21
noncomputable def JG5:String:=PySem.W.SL.s7801419657504700863x10
noncomputable def JIy:String:=PySem.W.SL.s1688129525768580628x8
noncomputable def JL5:String:=PySem.W.SL.s1031832959479892071x19
noncomputable def JLY:String:=PySem.W.SL.s8991790508128307865x19
noncomputable def JLw:String:=PySem.W.SL.s14539662485746970245x23
noncomputable def JMH:String:=PySem.W.SL.s11643622729373238714x14
noncomputable def JGT:String:=PySem.W.SL.s3386828779285465597x17
noncomputable def JKc:String:=PySem.W.SL.s13042696260734638735x12
noncomputable def JJK:String:=PySem.W.SL.s18239426817015966623x15
noncomputable def JI7:String:=PySem.W.SL.s1270395311379034370x22
noncomputable def JMJ:String:=PySem.W.SL.s10696252587037064777x22
noncomputable def JLy:String:=PySem.W.SL.s7852717498200857586x20
noncomputable def JII:String:=PySem.W.SL.s6377248116197321094x8
noncomputable def JLZ:String:=PySem.W.SL.s3834378056692298002x18
noncomputable def JJ8:String:=PySem.W.SL.s17586630440231065808x18
noncomputable def JMI:String:=PySem.W.SL.s15234114252648025395x21
noncomputable def JJ3:String:=PySem.W.SL.s8496462677383758984x14
noncomputable def JMl:String:=PySem.W.SL.s16789243406116112673x4
noncomputable def JLr:String:=PySem.W.SL.s14400166428656793546x20
noncomputable def JJy:String:=PySem.W.SL.s5857708277339239366x20
noncomputable def JM9:String:="builtins.copyright#opaque"
noncomputable def JLR:String:="builtins.credits#opaque"
noncomputable def JIP:String:="builtins.license#opaque"
noncomputable def JHk:String:=PySem.W.SL.s7804999707787243718x20
noncomputable def Jet:String:=PySem.W.SL.s7097527257260152453x26
noncomputable def JCm:String:=PySem.W.SL.s6658869562736209489x6
noncomputable def JLA:String:=PySem.W.SL.s5856160107412720595x4
noncomputable def JbR:String:=PySem.W.SL.s658472552662922059x5
noncomputable def q154:String:=PySem.W.SL.s7174869446012820540x8
noncomputable def JG2:String:=PySem.W.SL.s10062305145149207511x16
noncomputable def Jb3:String:=PySem.W.SL.s11030030927630378310x26
noncomputable def Jif:String:=PySem.W.SL.s5160863994218179198x17
noncomputable def Jef:String:=PySem.W.SL.s10220274742760427390x26
noncomputable def Jbd:String:=PySem.W.SL.s14755015743595814543x17
noncomputable def Jb9:String:=PySem.W.SL.s4860613602091757760x24
noncomputable def JcY:String:=PySem.W.SL.s11443829558043349243x14
noncomputable def JeI:String:=PySem.W.SL.s6511155373996960695x17
noncomputable def JeE:String:=PySem.W.SL.s12411053484034534018x21
def y0:List Value:=[i 1,i 0,r 20,i 9,i 0,r 27,i 14,i 0,r 47,i 16,i 0,r 59]
def y1:List Value:=[i 18,i 0,r 71,i 20,i 0,r 83,i 57,i 0,r 97,i 106,i 0,r 132]
def y2:List Value:=[i 115,i 0,r 139,i 119,i 0,r 146]
def y3:List Value:=[i 115,i 0,r 139,i 119,i 0,r 146,i 125,i 0,r 153,i 147,i 0,r 160]
def y4:List Value:=[i 151,i 0,r 167,i 155,i 0,r 174,i 160,i 0,r 181,i 164,i 0,r 188]
def y5:List Value:=[i 168,i 0,r 195,i 172,i 0,r 202,i 174,i 0,r 209,i 176,i 0,r 216]
def y6:List Value:=[i 181,i 0,r 223,i 190,i 0,r 230,i 195,i 0,r 237]
def y7:List Value:=[i 181,i 0,r 223,i 190,i 0,r 230,i 195,i 0,r 237,i 199,i 0,r 244]
def y8:List Value:=[i 204,i 0,r 251,i 207,i 0,r 258,i 212,i 0,r 265,i 227,i 0,r 272]
def y9:List Value:=[i 236,i 0,r 279,i 244,i 0,r 286,i 248,i 0,r 293]
def y10:List Value:=[i 236,i 0,r 279,i 244,i 0,r 286,i 248,i 0,r 293,i 271,i 0,r 300]
def y11:List Value:=[i 281,i 0,r 321,i 291,i 0,r 342,i 299,i 0,r 349,i 304,i 0,r 356]
def y12:List Value:=[i 309,i 0,r 363,i 315,i 0,r 370]
def y13:List Value:=[i 309,i 0,r 363,i 315,i 0,r 370,i 334,i 0,r 377,i 340,i 0,r 384]
def y14:List Value:=[i 345,i 0,r 391,i 361,i 0,r 399,i 375,i 0,r 406,i 382,i 0,r 413]
def y15:List Value:=[i 384,i 0,r 420,i 393,i 0,r 427]
def y16:List Value:=[i 384,i 0,r 420,i 393,i 0,r 427,i 406,i 0,r 435,i 412,i 0,r 456]
def y17:List Value:=[i 420,i 0,r 463]
def y18:List Value:=[i 420,i 0,r 463,i 424,i 0,r 470,i 432,i 0,r 477,i 444,i 0,r 484]
def y19:List Value:=[i 461,i 0,r 491,i 477,i 0,r 498,i 480,i 0,r 505,i 489,i 0,r 512]
def y20:List Value:=[i 492,i 0,r 519,i 503,i 0,r 526,i 511,i 0,r 533,i 517,i 0,r 540]
def y21:List Value:=[i 522,i 0,r 547]
def y22:List Value:=[i 522,i 0,r 547,i 531,i 0,r 568]
def y23:List Value:=[i 522,i 0,r 547,i 531,i 0,r 568,i 557,i 0,r 608]
def y24:List Value:=[i 522,i 0,r 547,i 531,i 0,r 568,i 557,i 0,r 608,i 571,i 0,r 629]
def y25:List Value:=[i 578,i 0,r 657]
def y26:List Value:=[i 580,i 4,r 664,i 586,i 4,r 671,i 589,i 4,r 678,i 592,i 4,r 685]
def y27:List Value:=[i 595,i 4,r 692,i 598,i 4,r 699,i 601,i 4,r 706,i 604,i 4,r 713]
def y28:List Value:=[i 607,i 4,r 720,i 610,i 4,r 727,i 613,i 4,r 734,i 616,i 4,r 741]
def y29:List Value:=[i 578,i 0,r 657,i 618,i 0,r 755]
def y30:List Value:=[i 578,i 0,r 657,i 618,i 0,r 755,i 622,i 0,r 776]
def y31:List Value:=[i 578,i 0,r 657,i 618,i 0,r 755,i 622,i 0,r 776,i 626,i 0,r 797]
def y32:List Value:=[i 654,i 0,r 846]
def y33:List Value:=[i 654,i 0,r 846,i 686,i 0,r 886]
def y34:List Value:=[i 688,i 4,r 893,i 724,i 4,r 900,i 727,i 4,r 907,i 730,i 4,r 914]
def y35:List Value:=[i 733,i 4,r 921,i 736,i 4,r 928,i 739,i 4,r 935,i 742,i 4,r 942]
def y36:List Value:=[i 745,i 4,r 949,i 748,i 4,r 956,i 751,i 4,r 963,i 754,i 4,r 970]
def y37:List Value:=[s JjL 1832,s Jdk 1833,s JJj 1834,s Jpw 1835,s JLL 1836,s JCc 1837,s JDO 1838,s Jtw 1839,s JBm 1840,s JMu 1841,s JBs 1842,s JEF 1843]
def y38:List Value:=[s Jf5 1844,s JD1 1845,s JLC 1846,s JMh 1847,s Jpr 1848,s Jbf 1849,s JJV 1850,s Jgp 1851,s JKL 1852,s Joi 1853,s Jl4 1854,s JMi 1855]
def y39:List Value:=[s JlV 1856,s JJN 1857,s Ja7 1858,s JIw 1859,s JmI 1860,s Ju2 1861,s Jwv 1862,s Jyx 1863,s Ji4 1864,s Jt3 1865]
def y40:List Value:=[i 654,i 0,r 846,i 686,i 0,r 886,i 756,i 0,r 982,i 758,i 0,r 989]
def y41:List Value:=[i 766,i 0,r 996,i 768,i 0,r 1003,i 772,i 0,r 1010,i 777,i 0,r 1017]
def y42:List Value:=[i 802,i 0,r 1024,i 805,i 0,r 1029]
def y43:List Value:=[i 802,i 0,r 1024,i 805,i 0,r 1029,i 819,i 0,r 1036,i 825,i 0,r 1043]
def y44:List Value:=[i 827,i 0,r 1050,i 831,i 0,r 1057,i 841,i 0,r 1064,i 851,i 0,r 1071]
def y45:List Value:=[i 872,i 0,r 1078,i 878,i 0,r 1085,i 892,i 0,r 1090,i 898,i 0,r 1097]
def y46:List Value:=[i 911,i 0,r 1104,i 917,i 0,r 1111]
def y47:List Value:=[i 911,i 0,r 1104,i 917,i 0,r 1111,i 923,i 0,r 1118,i 940,i 0,r 1125]
def y48:List Value:=[i 959,i 0,r 1132]
def y49:List Value:=[i 959,i 0,r 1132,i 992,i 0,r 1220,i 998,i 0,r 1227]
def y50:List Value:=[i 959,i 0,r 1132,i 992,i 0,r 1220,i 998,i 0,r 1227,i 1017,i 0,r 1234]
def y51:List Value:=[i 1023,i 0,r 1241,i 1043,i 0,r 1246,i 1056,i 0,r 1253,i 1062,i 0,r 1260]
def y52:List Value:=[i 1073,i 0,r 1267,i 1082,i 0,r 1274,i 1089,i 0,r 1281,i 1091,i 0,r 1288]
def y53:List Value:=[i 1102,i 0,r 1295,i 1106,i 0,r 1302]
def y54:List Value:=[i 1102,i 0,r 1295,i 1106,i 0,r 1302,i 1115,i 0,r 1309,i 1150,i 0,r 1316]
def y55:List Value:=[i 1173,i 0,r 1321]
def k0:PK:=fun P=>[e P z0 1 (s z1 160),e P z2 2 (b q0),e P z3 3 (b q1),e P z4 4 (b q2),e P z5 5 (b q3),e P z6 6 (b q4),e P z7 7 (b q5),e P z8 8 (b q6)]
def k1:PK:=fun P=>[e P z9 9 (b q7),e P z10 10 (b q8),e P z11 11 (b q9),e P z12 12 (b q10),e P z13 13 (b q11),e P z14 14 (b q12),e P z15 15 (b q13),e P z16 16 (b q14)]
def k2:PK:=fun P=>[e P z17 17 (b q15),e P z18 18 (b q16),e P z19 19 (b q17),e P z20 20 (b q18),e P z21 21 (b q19),e P z22 22 (b q20),e P z23 23 (b q21),e P z24 24 (b q22)]
def k3:PK:=fun P=>[e P z25 25 (b q23),e P z26 26 (b q24),e P z27 27 (b q25),e P z28 28 (b q26),e P z29 29 (b q27),e P z30 30 (b q28),e P z31 31 (b q29),e P z32 32 (b q30)]
def k4:PK:=fun P=>[e P z33 33 (b q31),e P z34 34 (b q32),e P z35 35 (b q33),e P z36 36 (b q34),e P z37 37 (b q35),e P z38 38 (b q36),e P z39 39 (b q37),e P z40 40 (b q38)]
def k5:PK:=fun P=>[e P z41 41 (b q39),e P z42 42 (b q40),e P z43 43 (b q41),e P z44 44 (b q42),e P z45 45 (b q43),e P z46 46 (b q44),e P z47 47 (b q45),e P z48 48 (b q46)]
def k6:PK:=fun P=>[e P z49 49 (b q47),e P z50 50 .none,e P z51 51 .ellipsis,e P z52 52 .notImplemented,e P z53 53 (.bool false),e P z54 54 (.bool true),e P z55 55 (t q48),e P z56 56 (t q49)]
def k7:PK:=fun P=>[e P z57 57 (t q50),e P z58 58 (t q51),e P z59 59 (t q52),e P z60 60 (t q53),e P z61 61 (t q54),e P z62 62 (t q55),e P z63 63 (t q56),e P z64 64 (t q57)]
def k8:PK:=fun P=>[e P z65 65 (t q58),e P z66 66 (t q59),e P z67 67 (t q60),e P z68 68 (t q61),e P z69 69 (t q62),e P z70 70 (t q63),e P z71 71 (t q64),e P z72 72 (t q65)]
def k9:PK:=fun P=>[e P z73 73 (t q66),e P z74 74 (t q67),e P z75 75 (t q68),e P z76 76 (t q69),e P z77 77 (t q70),e P z78 78 (t q71),e P z79 79 (t q72),e P z80 80 (t q73)]
def k10:PK:=fun P=>[e P z81 81 (.bool true),e P z82 82 (t q74),e P z83 83 (t q75),e P z84 84 (t q76),e P z85 85 (t q77),e P z86 86 (t q78),e P z87 87 (t q79),e P z88 88 (t q80)]
def k11:PK:=fun P=>[e P z89 89 (t q81),e P z90 90 (t q82),e P z91 91 (t q83),e P z92 92 (t q84),e P z93 93 (t q85),e P z94 94 (t q86),e P z95 95 (t q87),e P z96 96 (t q88)]
def k12:PK:=fun P=>[e P z97 97 (t q89),e P z98 98 (t q90),e P z99 99 (t q91),e P JNc 100 (t q92),e P JLJ 101 (t q93),e P JMa 102 (t q94),e P JML 103 (t q95),e P JLk 104 (t q96)]
def k13:PK:=fun P=>[e P JHc 105 (t q97),e P JHB 106 (t q98),e P JMQ 107 (t q99),e P JMS 108 (t JNb),e P JLz 109 (t JJ6),e P JJO 110 (t JJz),e P JNa 111 (t JIT),e P JIx 112 (t JJR)]
def k14:PK:=fun P=>[e P JHs 113 (t JHe),e P JKh 114 (t JKn),e P JLi 115 (t JHz),e P JJt 116 (t JKi),e P JJ4 117 (t JJQ),e P JNr 118 (t JJp),e P JHx 119 (t JIO),e P JGU 120 (t JJ5)]
def k15:PK:=fun P=>[e P JLT 121 (t JH0),e P JKl 122 (t JMT),e P JJg 123 (t JM0),e P JMP 124 (t JHn),e P JMr 125 (t JJe),e P JHI 126 (t JLu),e P JI4 127 (t JIN),e P JIW 128 (t JG9)]
def k16:PK:=fun P=>[e P JKH 129 (t JK4),e P JHa 130 (t JH5),e P JJX 131 (t JMD),e P JLq 132 (t JJ9),e P JHt 133 (t JKy),e P JNe 134 (t JG5),e P JKX 135 (t JIy),e P JL6 136 (t JL5)]
def k17:PK:=fun P=>[e P JLB 137 (t JLY),e P JHP 138 (t JLw),e P JHQ 139 (t JMH),e P JJF 140 (t JGT),e P JLH 141 (t JKc),e P JHr 142 (t JJK),e P JI6 143 (t JI7),e P JHd 144 (t JMJ)]
def k18:PK:=fun P=>[e P JLD 145 (t JLy),e P JH7 146 (t JII),e P JLe 147 (t JLZ),e P JM7 148 (t JJ8),e P JMv 149 (t JMI),e P JKT 150 (t JJ3),e P JMM 151 (t q89),e P JMk 152 (t q89)]
def k19:PK:=fun P=>[e P JHX 153 (b JMl),e P JHW 154 (b JLr),e P JKD 155 (b JJy),e P JLG 156 (b JM9),e P JGS 157 (b JLR),e P JJw 158 (b JIP),e P JKr 159 (b JHk)]
def k20:PK:=fun P=>[e P z0 165 (s Jcx 194),e P z2 166 .none,e P z3 167 .none,e P z4 168 (b Jet),e P z5 169 .none,e P JeQ 170 (r 6),e P Jez 171 (r 4),e P JeO 173 (s Jb 172)]
def k21:PK:=fun P=>[e P JpK 174 .none,e P JgS 193 (r 21),e P JpP 197 (.int 1 196),e P JpR 199 (.int 2 198),e P JqQ 201 (.int 7 200),e P JrH 203 (.int 8 202),e P Jbg 234 (r 38),e P JgI 250 (r 51)]
def k22:PK:=fun P=>[e P Jgd 266 (r 63)]
def k23:PK:=fun P=>[e P Jgd 266 (r 63),e P JgF 282 (r 75)]
def k24:PK:=fun P=>[e P z0 165 (s z190 299),e P z2 166 .none,e P z3 167 .none,e P z4 168 (b Jet),e P z5 169 .none,e P JeQ 170 (r 6),e P Jez 171 (r 4),e P JeO 173 (s Jb 172)]
def k25:PK:=fun P=>[e P Jgd 266 (r 63),e P JgF 282 (r 75),e P JiM 298 (r 87),e P Jw1 302 (.int 0 301),e P JxC 304 (.int 1 303),e P JEw 306 (.int 2 305),e P JCL 308 (.int 3 307),e P Jyn 310 (.int 4 309)]
def k26:PK:=fun P=>[e P JBv 312 (.int 5 311),e P JFE 314 (.int 6 313),e P Jzh 316 (.int 7 315),e P Jym 318 (.int 8 317),e P JFm 320 (.int 9 319),e P JAk 322 (.int 10 321),e P JBf 324 (.int 11 323),e P JCp 326 (.int 12 325)]
def k27:PK:=fun P=>[e P Jua 328 (.int 13 327),e P JvI 330 (.int 14 329),e P JtY 332 (.int 15 331),e P JuF 334 (.int 16 333),e P Ju7 336 (.int 1 335),e P Ju4 338 (.int 2 337)]
def k28:PK:=fun P=>[e P Jua 328 (.int 13 327),e P JvI 330 (.int 14 329),e P JtY 332 (.int 15 331),e P JuF 334 (.int 16 333),e P Ju7 336 (.int 1 335),e P Ju4 338 (.int 2 337),e P Jxu 340 (.int 3 339),e P JCf 342 (.int 4 341)]
def k29:PK:=fun P=>[e P Jw2 344 (.int 5 343),e P JEb 346 (.int 6 345),e P JDL 348 (.int 7 347),e P JBk 350 (.int 8 349),e P JCg 352 (.int 9 351),e P JBB 354 (.int 10 353),e P JwR 356 (.int 11 355),e P JEG 358 (.int 24 357)]
def k30:PK:=fun P=>[e P Jqx 360 (.int 4096 359),e P Jqt 389 (r 90)]
def k31:PK:=fun P=>[e P Jqx 360 (.int 4096 359),e P Jqt 389 (r 90),e P Juj 418 (r 91),e P JtA 420 (.int 5 419),e P JvR 422 (.int 8 421)]
def k32:PK:=fun P=>[e P Jqx 360 (.int 4096 359),e P Jqt 389 (r 90),e P Juj 418 (r 91),e P JtA 420 (.int 5 419),e P JvR 422 (.int 8 421),e P JiS 479 (r 122),e P z227 487 (r 133),e P z228 494 (r 140)]
def k33:PK:=fun P=>[e P z229 501 (r 147)]
def k34:PK:=fun P=>[e P z229 501 (r 147),e P z249 511 (r 154),e P z250 519 (r 161),e P z251 528 (r 168),e P z252 537 (r 175),e P z253 546 (r 182),e P z254 555 (r 189),e P JjQ 563 (r 196)]
def k35:PK:=fun P=>[e P z256 571 (r 203),e P z257 579 (r 210),e P Jil 588 (r 217),e P z259 597 (r 224),e P z260 606 (r 231),e P z261 614 (r 238)]
def k36:PK:=fun P=>[e P z0 165 (s z267 696),e P z2 166 .none,e P z3 167 .none,e P z4 168 (b Jet),e P z5 169 .none,e P JeQ 170 (r 6),e P Jez 171 (r 4),e P JeO 173 (s Jb 172)]
def k37:PK:=fun P=>[e P z256 571 (r 203),e P z257 579 (r 210),e P Jil 588 (r 217),e P z259 597 (r 224),e P z260 606 (r 231),e P z261 614 (r 238),e P z268 623 (r 245),e P z269 632 (r 252)]
def k38:PK:=fun P=>[e P z270 642 (r 259),e P z271 656 (r 266),e P z272 666 (r 273),e P Ji9 674 (r 280),e P z274 683 (r 287),e P JjK 695 (r 294),e P JEK 699 (.int 1 698),e P JwH 701 (.int 2 700)]
def k39:PK:=fun P=>[e P Jyw 703 (.int 3 702),e P JFr 705 (.int 5 704),e P JAE 707 (.int 1 706),e P JBF 709 (.int 1 708),e P JCl 711 (.int 2 710),e P Jxq 713 (.int 4 712),e P JzP 715 (.int 1 714),e P JyI 717 (.int 2 716)]
def k40:PK:=fun P=>[e P Jte 719 (.int 4 718),e P JtM 721 (.int 8 720),e P Jtd 723 (.int 16 722),e P Jsv 725 (.int 1 724)]
def k41:PK:=fun P=>[e P Jte 719 (.int 4 718),e P JtM 721 (.int 8 720),e P Jtd 723 (.int 16 722),e P Jsv 725 (.int 1 724),e P Jzl 727 (.int 2 726),e P JzX 729 (.int 3 728),e P JB4 731 (.int 5 730),e P JiH 771 (r 311)]
def k42:PK:=fun P=>[e P JgJ 805 (r 332),e P z310 816 (r 343),e P JhS 826 (r 350),e P Jij 835 (r 357),e P JhX 846 (r 364),e P Jit 857 (r 371)]
def k43:PK:=fun P=>[e P z0 165 (s JcJ 952),e P z2 166 .none,e P z3 167 .none,e P z4 168 (b Jet),e P z5 169 .none,e P JeQ 170 (r 6),e P Jez 171 (r 4),e P JeO 173 (s Jb 172)]
def k44:PK:=fun P=>[e P JgJ 805 (r 332),e P z310 816 (r 343),e P JhS 826 (r 350),e P Jij 835 (r 357),e P JhX 846 (r 364),e P Jit 857 (r 371),e P Jjx 865 (r 378),e P z327 874 (r 385)]
def k45:PK:=fun P=>[e P JjC 884 (r 392),e P JE9 886 (.int 1 885),e P Jy0 888 (.int 2 887),e P Jx5 890 (.int 3 889),e P JwV 892 (.int 4 891),e P Jzs 894 (.int 5 893),e P JA6 896 (.int 6 895),e P JEp 899 (r 393)]
def k46:PK:=fun P=>[e P z336 912 (r 400),e P z337 921 (r 407),e P z338 929 (r 414),e P Jiv 939 (r 421),e P JiP 951 (r 428)]
def k47:PK:=fun P=>[e P z336 912 (r 400),e P z337 921 (r 407),e P z338 929 (r 414),e P Jiv 939 (r 421),e P JiP 951 (r 428),e P JFM 966 (r 429),e P Jyq 968 (.int 12 967),e P JhT 999 (r 446)]
def k48:PK:=fun P=>[e P JiD 1009 (r 457),e P JiB 1018 (r 464)]
def k49:PK:=fun P=>[e P z0 165 (s z358 1156),e P z2 166 .none,e P z3 167 .none,e P z4 168 (b Jet),e P z5 169 .none,e P JeQ 170 (r 6),e P Jez 171 (r 4),e P JeO 173 (s Jb 172)]
def k50:PK:=fun P=>[e P JiD 1009 (r 457),e P JiB 1018 (r 464),e P Jj3 1029 (r 471),e P Jjk 1044 (r 478),e P Jka 1059 (r 485),e P Jjz 1076 (r 492),e P Jjw 1085 (r 499),e P JjT 1097 (r 506)]
def k51:PK:=fun P=>[e P Jik 1106 (r 513),e P JhP 1122 (r 520),e P Jii 1136 (r 527),e P Jiz 1147 (r 534),e P Jid 1155 (r 541),e P Jvd 1159 (.int 7 1158)]
def k52:PK:=fun P=>[e P Jik 1106 (r 513),e P JhP 1122 (r 520),e P Jii 1136 (r 527),e P Jiz 1147 (r 534),e P Jid 1155 (r 541),e P Jvd 1159 (.int 7 1158),e P JB7 1161 (.int 110 1160),e P Jh7 1199 (r 558)]
def k53:PK:=fun P=>[e P z0 165 (s z401 1252),e P z2 166 .none,e P z3 167 .none,e P z4 168 (b Jet),e P z5 169 .none,e P JeQ 170 (r 6),e P Jez 171 (r 4),e P JeO 173 (s Jb 172)]
def k54:PK:=fun P=>[e P Jip 1251 (r 598),e P Jxn 1255 (.int 1 1254),e P JzE 1257 (.int 2 1256),e P JBQ 1259 (.int 3 1258),e P JFX 1261 (.int 4 1260),e P JCb 1263 (.int 5 1262),e P JBa 1265 (.int 8 1264),e P Jy4 1267 (.int 14 1266)]
def k55:PK:=fun P=>[e P JnP 1269 (.int 19 1268)]
def k56:PK:=fun P=>[e P z0 165 (s z419 1314),e P z2 166 .none,e P z3 167 .none,e P z4 168 (b Jet),e P z5 169 .none,e P JeQ 170 (r 6),e P Jez 171 (r 4),e P JeO 173 (s Jb 172)]
def k57:PK:=fun P=>[e P JnP 1269 (.int 19 1268),e P Jp2 1271 (.int 34 1270),e P JqK 1273 (.int 2 1272),e P JqU 1275 (.int 8 1274),e P Jgu 1313 (r 619),e P Jqi 1317 (.int 50 1316)]
def k58:PK:=fun P=>[e P JnP 1269 (.int 19 1268),e P Jp2 1271 (.int 34 1270),e P JqK 1273 (.int 2 1272),e P JqU 1275 (.int 8 1274),e P Jgu 1313 (r 619),e P Jqi 1317 (.int 50 1316),e P JgL 1358 (r 647)]
def k59:PK:=fun P=>[e P JnP 1269 (.int 19 1268),e P Jp2 1271 (.int 34 1270),e P JqK 1273 (.int 2 1272),e P JqU 1275 (.int 8 1274),e P Jgu 1313 (r 619),e P Jqi 1317 (.int 50 1316),e P JgL 1358 (r 647),e P Jio 1497 (r 745)]
def k60:PK:=fun P=>[e P Jai 1366 (s z419 1314),e P Jag 1370 (.int 578 1369),e P z180 1377 (r 665),e P z442 1389 (r 672),e P JnB 1399 (r 679),e P JoB 1409 (r 686),e P Jno 1419 (r 693),e P Jnv 1428 (r 700)]
def k61:PK:=fun P=>[e P JgG 1437 (r 707),e P JfP 1446 (r 714),e P JnN 1455 (r 721),e P JmV 1464 (r 728),e P JnT 1475 (r 735),e P Jm3 1485 (r 742),e P Jah 1490 (r 743),e P Jbp 1492 (r 746)]
def k62:PK:=fun P=>[e P Ja8 1494 (r 747),e P z2 1495 .none]
def k63:PK:=fun P=>[e P Jed 1528 (r 766)]
def k64:PK:=fun P=>[e P Jed 1528 (r 766),e P Jer 1558 (r 787)]
def k65:PK:=fun P=>[e P Jed 1528 (r 766),e P Jer 1558 (r 787),e P Jdj 1636 (r 836)]
def k66:PK:=fun P=>[e P Jed 1528 (r 766),e P Jer 1558 (r 787),e P Jdj 1636 (r 836),e P JdP 1712 (r 878)]
def k67:PK:=fun P=>[e P Jed 1528 (r 766),e P Jer 1558 (r 787),e P Jdj 1636 (r 836),e P JdP 1712 (r 878),e P JgP 1869 (r 974)]
def k68:PK:=fun P=>[e P z0 165 (s z535 1922),e P z2 166 .none,e P z3 167 .none,e P z4 168 (b Jet),e P z5 169 .none,e P JeQ 170 (r 6),e P Jez 171 (r 4),e P JeO 173 (s Jb 172)]
def k69:PK:=fun P=>[e P Jed 1528 (r 766),e P Jer 1558 (r 787),e P Jdj 1636 (r 836),e P JdP 1712 (r 878),e P JgP 1869 (r 974),e P z536 1876 (r 983),e P z537 1888 (r 990),e P z538 1895 (r 997)]
def k70:PK:=fun P=>[e P z539 1903 (r 1004),e P JjS 1911 (r 1011),e P Jkb 1921 (r 1018),e P JAh 1925 (.int 101 1924),e P JC9 1927 (.int 102 1926),e P JEz 1929 (.int 1 1928),e P JzC 1931 (.int 2 1930),e P JEn 1933 (.int 3 1932)]
def k71:PK:=fun P=>[e P JE0 1935 (.int 4 1934),e P Jxm 1937 (.int 5 1936),e P JDe 1939 (.int 6 1938),e P JxI 1941 (.int 1 1940),e P JyG 1943 (.int 2 1942),e P JEl 1945 (.int 3 1944),e P JFd 1947 (.int 4 1946),e P JEY 1949 (.int 5 1948)]
def k72:PK:=fun P=>[e P z555 1959 (r 1025),e P z556 1965 (r 1030)]
def k73:PK:=fun P=>[e P z555 1959 (r 1025),e P z556 1965 (r 1030),e P Jj1 1976 (r 1037),e P z561 1983 (r 1044),e P z562 1991 (r 1051),e P z563 2002 (r 1058),e P z564 2014 (r 1065),e P z565 2028 (r 1072)]
def k74:PK:=fun P=>[e P z566 2040 (r 1079),e P z567 2055 (r 1086),e P Jir 2061 (r 1091),e P JiG 2074 (r 1098),e P z570 2084 (r 1105),e P JiC 2094 (r 1112)]
def k75:PK:=fun P=>[e P z0 165 (s z577 2128),e P z2 166 .none,e P z3 167 .none,e P z4 168 (b Jet),e P z5 169 .none,e P JeQ 170 (r 6),e P Jez 171 (r 4),e P JeO 173 (s Jb 172)]
def k76:PK:=fun P=>[e P z566 2040 (r 1079),e P z567 2055 (r 1086),e P Jir 2061 (r 1091),e P JiG 2074 (r 1098),e P z570 2084 (r 1105),e P JiC 2094 (r 1112),e P z578 2113 (r 1119),e P z579 2127 (r 1126)]
def k77:PK:=fun P=>[e P JfZ 2214 (r 1185)]
def k78:PK:=fun P=>[e P z0 165 (s z602 2215),e P z2 166 .none,e P z3 167 .none,e P z4 168 (b Jet),e P z5 169 .none,e P JeQ 170 (r 6),e P Jez 171 (r 4),e P JeO 173 (s Jb 172)]
def k79:PK:=fun P=>[e P JfZ 2214 (r 1185),e P Jue 2227 (r 1190),e P Jtj 2458 (r 1214),e P z605 2467 (r 1221),e P z606 2486 (r 1228)]
def k80:PK:=fun P=>[e P JfZ 2214 (r 1185),e P Jue 2227 (r 1190),e P Jtj 2458 (r 1214),e P z605 2467 (r 1221),e P z606 2486 (r 1228),e P z615 2497 (r 1235),e P z616 2518 (r 1242),e P z617 2524 (r 1247)]
def k81:PK:=fun P=>[e P z618 2538 (r 1254),e P z619 2550 (r 1261),e P z620 2561 (r 1268),e P z621 2571 (r 1275),e P z622 2579 (r 1282),e P z623 2591 (r 1289),e P z624 2601 (r 1296),e P z625 2612 (r 1303)]
def k82:PK:=fun P=>[e P z638 2630 (r 1310),e P z639 2653 (r 1317),e P z640 2659 (r 1322)]
def jb (i j:Nat)(a b:Str)(d:Value)(c:Addr):Obj:=n (t q154) (.func (fd i j a b 3 [] .none .none .none d none (.ref c) .none 0))
def jd (l:List Value):Obj:=n (t JLA) (.fields ⟨l⟩)
def jf (a b c:Str)(t:Nat)(l:List Value):Obj:=jd (s a t::s b (t+1)::s c (t+2)::l)
def je (l:List Value):Obj:=n (t q71) (.seq ⟨l⟩ 0)
def o0:PO:=fun P=>n (t q54) (.dict (k0 P++k1 P++k2 P++k3 P++k4 P++k5 P++k6 P++k7 P++k8 P++k9 P++k10 P++k11 P++k12 P++k13 P++k14 P++k15 P++k16 P++k17 P++k18 P++k19 P).toArray 159)
def o1:PO:=fun P=>n (t q54) (.dict #[e P z1 162 (r 4),e P JmU 163 (r 5)] 2)
def o2:PO:=fun P=>n .none (.dict #[] 0)
def o3:PO:=fun P=>n (t q54) (.dict #[e P z0 165 (s JmU 164),e P z2 166 .none,e P z3 167 .none,e P z4 168 (b Jet),e P z5 169 .none,e P JeQ 170 (r 6),e P Jez 171 (r 4),e P JeO 173 (s Jb 172),e P JpK 174 .none] 9)
def o4:PO:=fun P=>⟨(t JCm),some 0,.plain,#[]⟩
def o5:PO:=fun P=>⟨(t JCm),some 3,.plain,#[]⟩
def o6:PO:=fun P=>n (t q54) (.dict #[] 0)
def o7:PO:=fun P=>je []
def o8:PO:=fun P=>jc []
def o9:PO:=fun P=>jf Jqh Jqh Jb 176 [i 1,i 0,i 0,i 0,i 0,r 7,.bool false,i 175,r 8,.none,.none,.none,.none,i 179,i 1,s Jb 180]
def o10:PO:=fun P=>⟨(t JbR),none,.plain,#[some (r 9),some (r 3),some (r 3),none,some (s JmU 164),none,some (r 0)]⟩
def o11:PO:=fun P=>jf Jqh Jqh Jb 182 [i 1,i 0,i 0,i 0,i 0,r 11,.bool false,i 181,r 12,.none,.none,.none,.none,i 185,i 1,s Jb 186]
def o12:PO:=fun P=>⟨(t JbR),none,.plain,#[some (r 13),some (r 3),some (r 3),none,some (s JmU 164),none,some (r 0)]⟩
def o13:PO:=fun P=>n .none (.dict #[e P JK9 231 (i 38),e P JLM 232 (i 1)] 2)
def o16:PO:=fun P=>je [s JI 190]
def o17:PO:=fun P=>ja 0 0 JgS JgS
def o18:PO:=fun P=>jf JgS JgS Jb 187 [i 1,i 1,i 0,i 0,i 3,r 15,.bool true,i 181,r 16,.none,r 17,r 18,r 19,i 191,i 1,s Jb 192]
def o19:PO:=fun P=>jb 0 0 JgS JgS (s JmU 164) 20
def o20:PO:=fun P=>je [t q76]
def o21:PO:=fun P=>n (t Jb3) (.fields #[b JG2,t q72])
def o22:PO:=fun P=>n (t q54) (.dict #[e P Jai 211 (s Jcx 194),e P Jb8 213 (s Jbg 212),e P Jag 215 (.int 9 214),e P z180 224 (r 35),e P Jah 227 (r 36)] 5)
def o23:PO:=fun P=>jc [i 11,i 4,r 34]
def o24:PO:=fun P=>jf Jbg Jbg Jb 206 [i 9,i 0,i 0,i 0,i 0,r 25,.bool false,i 181,r 26,.none,.none,.none,.none,i 209,i 9,s Jb 210]
def o25:PO:=fun P=>⟨(t JbR),none,.plain,#[some (r 27),some (r 3),some (r 24),none,some (s Jcx 194),none,some (r 0)]⟩
def o26:PO:=fun P=>je [s JR 219,s JFJ 220,s Jdk 221]
def o27:PO:=fun P=>ja 6 1 z180 JuD
def o28:PO:=fun P=>jf z180 JuD Jb 216 [i 11,i 3,i 0,i 0,i 3,r 29,.bool true,i 181,r 30,.none,r 31,r 32,r 33,i 222,i 11,s Jb 223]
def o29:PO:=fun P=>jb 6 1 z180 JuD (s Jcx 194) 34
def o30:PO:=fun P=>je [s Jdk 225,s JFJ 226]
def o31:PO:=fun P=>n (t q54) (.dict #[e P Jai 211 (s Jcx 194),e P Jag 215 (.int 9 214),e P z180 224 (r 35),e P Jah 227 (r 36),e P Ja8 229 (r 39),e P z2 230 .none] 3)
def o33:PO:=fun P=>n (t Jbd) (.fields #[s Ja8 228,r 38,b Jef,.none])
def o34:PO:=fun P=>n (t q70) (.fields #[r 38,r 38,r 38])
def o35:PO:=fun P=>n (t Jb3) (.fields #[b Jb9,r 38])
def o39:PO:=fun P=>je [r 38]
def o40:PO:=fun P=>n (t q54) (.dict #[e P Jai 242 (s Jcx 194),e P Jb8 244 (s JgI 243),e P Jag 246 (.int 14 245),e P Jah 247 (r 49)] 4)
def o41:PO:=fun P=>jf JgI JgI Jb 237 [i 14,i 0,i 0,i 0,i 0,r 45,.bool false,i 181,r 46,.none,.none,.none,.none,i 240,i 14,s Jb 241]
def o42:PO:=fun P=>⟨(t JbR),none,.plain,#[some (r 47),some (r 3),some (r 44),none,some (s Jcx 194),none,some (r 0)]⟩
def o43:PO:=fun P=>n (t q54) (.dict #[e P Jai 242 (s Jcx 194),e P Jag 246 (.int 14 245),e P Jah 247 (r 49),e P z2 248 .none] 2)
def o44:PO:=fun P=>⟨(t q72),none,(.cls ⟨JgI,[r 38],[r 51,r 38,t q76,t q74,t q63],50,JgI,true,[],[],false,none,false⟩),#[some (r 42),none,some (s JgI 235),some (s JgI 243),some (b Jif),some (.bool true)]⟩
def o45:PO:=fun P=>n (t q70) (.fields #[r 51,r 51,r 51])
def o46:PO:=fun P=>n (t Jb3) (.fields #[b Jb9,r 51])
def o50:PO:=fun P=>n (t q54) (.dict #[e P Jai 258 (s Jcx 194),e P Jb8 260 (s Jgd 259),e P Jag 262 (.int 16 261),e P Jah 263 (r 61)] 4)
def o51:PO:=fun P=>jf Jgd Jgd Jb 253 [i 16,i 0,i 0,i 0,i 0,r 57,.bool false,i 181,r 58,.none,.none,.none,.none,i 256,i 16,s Jb 257]
def o52:PO:=fun P=>⟨(t JbR),none,.plain,#[some (r 59),some (r 3),some (r 56),none,some (s Jcx 194),none,some (r 0)]⟩
def o53:PO:=fun P=>n (t q54) (.dict #[e P Jai 258 (s Jcx 194),e P Jag 262 (.int 16 261),e P Jah 263 (r 61),e P z2 264 .none] 2)
def o54:PO:=fun P=>⟨(t q72),none,(.cls ⟨Jgd,[r 38],[r 63,r 38,t q76,t q74,t q63],62,Jgd,true,[],[],false,none,false⟩),#[some (r 54),none,some (s Jgd 251),some (s Jgd 259),some (b Jif),some (.bool true)]⟩
def o55:PO:=fun P=>n (t q70) (.fields #[r 63,r 63,r 63])
def o56:PO:=fun P=>n (t Jb3) (.fields #[b Jb9,r 63])
def o60:PO:=fun P=>n (t q54) (.dict #[e P Jai 274 (s Jcx 194),e P Jb8 276 (s JgF 275),e P Jag 278 (.int 18 277),e P Jah 279 (r 73)] 4)
def o61:PO:=fun P=>jf JgF JgF Jb 269 [i 18,i 0,i 0,i 0,i 0,r 69,.bool false,i 181,r 70,.none,.none,.none,.none,i 272,i 18,s Jb 273]
def o62:PO:=fun P=>⟨(t JbR),none,.plain,#[some (r 71),some (r 3),some (r 68),none,some (s Jcx 194),none,some (r 0)]⟩
def o63:PO:=fun P=>n (t q54) (.dict #[e P Jai 274 (s Jcx 194),e P Jag 278 (.int 18 277),e P Jah 279 (r 73),e P z2 280 .none] 2)
def o64:PO:=fun P=>⟨(t q72),none,(.cls ⟨JgF,[r 38],[r 75,r 38,t q76,t q74,t q63],74,JgF,true,[],[],false,none,false⟩),#[some (r 66),none,some (s JgF 267),some (s JgF 275),some (b Jif),some (.bool true)]⟩
def o65:PO:=fun P=>n (t q70) (.fields #[r 75,r 75,r 75])
def o66:PO:=fun P=>n (t Jb3) (.fields #[b Jb9,r 75])
def o68:PO:=fun P=>jc [i 1,i 0,r 20,i 9,i 0,r 27,i 14,i 0,r 47,i 16,i 0,r 59,i 18,i 0,r 71,i 20,i 0,r 83]
def o70:PO:=fun P=>n (t q54) (.dict #[e P Jai 290 (s Jcx 194),e P Jb8 292 (s JiM 291),e P Jag 294 (.int 20 293),e P Jah 295 (r 85)] 4)
def o71:PO:=fun P=>jf JiM JiM Jb 285 [i 20,i 0,i 0,i 0,i 0,r 81,.bool false,i 181,r 82,.none,.none,.none,.none,i 288,i 20,s Jb 289]
def o72:PO:=fun P=>⟨(t JbR),none,.plain,#[some (r 83),some (r 3),some (r 80),none,some (s Jcx 194),none,some (r 0)]⟩
def o73:PO:=fun P=>n (t q54) (.dict #[e P Jai 290 (s Jcx 194),e P Jag 294 (.int 20 293),e P Jah 295 (r 85),e P z2 296 .none] 2)
def o74:PO:=fun P=>⟨(t q72),none,(.cls ⟨JiM,[r 38],[r 87,r 38,t q76,t q74,t q63],86,JiM,true,[],[],false,none,false⟩),#[some (r 78),none,some (s JiM 283),some (s JiM 291),some (b Jif),some (.bool true)]⟩
def o75:PO:=fun P=>n (t q70) (.fields #[r 87,r 87,r 87])
def o76:PO:=fun P=>n (t Jb3) (.fields #[b Jb9,r 87])
def o78:PO:=fun P=>n (t q54) (.dict #[⟨0,(.int 0 301),(.int 20 361)⟩,⟨1,(.int 1 303),(.int 9 362)⟩,⟨2,(.int 2 305),(.int 10 363)⟩,⟨3,(.int 3 307),(.int 11 364)⟩,⟨4,(.int 4 309),(.int 12 365)⟩,⟨5,(.int 5 311),(.int 13 366)⟩,⟨6,(.int 6 313),(.int 14 367)⟩,⟨7,(.int 7 315),(.int 15 368)⟩,⟨8,(.int 8 317),(.int 16 369)⟩,⟨9,(.int 9 319),(.int 17 370)⟩,⟨10,(.int 10 321),(.int 18 371)⟩,⟨11,(.int 11 323),(.int 19 372)⟩,⟨12,(.int 12 325),(.int 1 373)⟩,⟨13,(.int 13 327),(.int 4 374)⟩] 14)
def o80:PO:=fun P=>n (t q54) (.dict #[⟨20,(.int 20 390),(.int 0 301)⟩,⟨9,(.int 9 391),(.int 1 303)⟩,⟨10,(.int 10 392),(.int 2 305)⟩,⟨11,(.int 11 393),(.int 3 307)⟩,⟨12,(.int 12 394),(.int 4 309)⟩,⟨13,(.int 13 395),(.int 5 311)⟩,⟨14,(.int 14 396),(.int 6 313)⟩,⟨15,(.int 15 397),(.int 7 315)⟩,⟨16,(.int 16 398),(.int 8 317)⟩,⟨17,(.int 17 399),(.int 9 319)⟩,⟨18,(.int 18 400),(.int 10 321)⟩,⟨19,(.int 19 401),(.int 11 323)⟩,⟨1,(.int 1 402),(.int 12 325)⟩,⟨4,(.int 4 403),(.int 13 327)⟩] 14)
def o89:PO:=fun P=>jf z180 z233 Jb 435 [i 59,i 1,i 0,i 0,i 3,r 99,.bool true,i 181,r 100,.none,r 101,r 102,r 103,i 441,i 59,s Jb 442]
def o90:PO:=fun P=>jb 46 1 z180 z233 (s z190 299) 104
def o93:PO:=fun P=>jf z230 z234 Jb 444 [i 73,i 2,i 0,i 0,i 3,r 106,.bool true,i 181,r 107,.none,r 108,r 109,r 110,i 449,i 73,s Jb 450]
def o94:PO:=fun P=>jb 46 2 z230 z234 (s z190 299) 111
def o97:PO:=fun P=>jf z231 z241 Jb 452 [i 78,i 2,i 0,i 0,i 3,r 113,.bool true,i 181,r 114,.none,r 115,r 116,r 117,i 464,i 78,s Jb 465]
def o98:PO:=fun P=>jb 46 3 z231 z241 (s z190 299) 118
def JBN:PO:=fun P=>n (t q54) (.dict #[e P Jai 430 (s z190 299),e P Jag 434 (.int 57 433),e P z180 443 (r 105),e P z230 451 (r 112),e P z231 466 (r 119),e P Jah 472 (r 120),e P Jbp 474 (r 123),e P Ja8 476 (r 124),e P z2 477 .none] 4)
def JF8:PO:=fun P=>⟨(t q72),none,(.cls ⟨JiS,[t q63],[r 122,t q63],121,JiS,true,[],[],false,none,false⟩),#[none,none,some (s JiS 423),some (s JiS 431),some (b JcY),some (.bool true)]⟩
def JFt:PO:=fun P=>je [s z230 483,s z248 484]
def JEO:PO:=fun P=>ja 47 0 z227 z227
def Jvr:PO:=fun P=>jf z227 z227 Jb 480 [i 106,i 1,i 0,i 0,i 3,r 127,.bool true,i 181,r 128,.none,r 129,r 130,r 131,i 485,i 106,s Jb 486]
def JtC:PO:=fun P=>jb 47 0 z227 z227 (s z190 299) 132
def JCR:PO:=fun P=>je [s z248 491]
def Jyo:PO:=fun P=>ja 48 0 z228 z228
def Jsw:PO:=fun P=>jf z228 z228 Jb 488 [i 115,i 1,i 0,i 0,i 3,r 134,.bool true,i 181,r 135,.none,r 136,r 137,r 138,i 492,i 115,s Jb 493]
def Js3:PO:=fun P=>jb 48 0 z228 z228 (s z190 299) 139
def Jxi:PO:=fun P=>je [s z248 498]
def JEk:PO:=fun P=>ja 49 0 z229 z229
def JsB:PO:=fun P=>jf z229 z229 Jb 495 [i 119,i 1,i 0,i 0,i 3,r 141,.bool true,i 181,r 142,.none,r 143,r 144,r 145,i 499,i 119,s Jb 500]
def JsR:PO:=fun P=>jb 49 0 z229 z229 (s z190 299) 146
def JxQ:PO:=fun P=>jf z249 z249 Jb 502 [i 125,i 2,i 0,i 0,i 3,r 148,.bool true,i 181,r 149,.none,r 150,r 151,r 152,i 509,i 125,s Jb 510]
def JA5:PO:=fun P=>jb 50 0 z249 z249 (s z190 299) 153
def JBq:PO:=fun P=>jf z250 z250 Jb 512 [i 147,i 2,i 0,i 0,i 3,r 155,.bool true,i 181,r 156,.none,r 157,r 158,r 159,i 517,i 147,s Jb 518]
def JF5:PO:=fun P=>jb 51 0 z250 z250 (s z190 299) 160
def JwK:PO:=fun P=>jf z251 z251 Jb 520 [i 151,i 2,i 0,i 0,i 3,r 162,.bool true,i 181,r 163,.none,r 164,r 165,r 166,i 526,i 151,s Jb 527]
def Jzx:PO:=fun P=>jb 52 0 z251 z251 (s z190 299) 167
def JBJ:PO:=fun P=>jf z252 z252 Jb 529 [i 155,i 2,i 0,i 0,i 3,r 169,.bool true,i 181,r 170,.none,r 171,r 172,r 173,i 535,i 155,s Jb 536]
def JD3:PO:=fun P=>jb 53 0 z252 z252 (s z190 299) 174
def JDp:PO:=fun P=>jf z253 z253 Jb 538 [i 160,i 3,i 0,i 0,i 3,r 176,.bool true,i 181,r 177,.none,r 178,r 179,r 180,i 544,i 160,s Jb 545]
def JE3:PO:=fun P=>jb 54 0 z253 z253 (s z190 299) 181
def JFU:PO:=fun P=>jf z254 z254 Jb 547 [i 164,i 3,i 0,i 0,i 3,r 183,.bool true,i 181,r 184,.none,r 185,r 186,r 187,i 553,i 164,s Jb 554]
def JwM:PO:=fun P=>jb 55 0 z254 z254 (s z190 299) 188
def JD7:PO:=fun P=>jf z256 z256 Jb 564 [i 172,i 2,i 0,i 0,i 3,r 197,.bool true,i 181,r 198,.none,r 199,r 200,r 201,i 569,i 172,s Jb 570]
def JDG:PO:=fun P=>jb 57 0 z256 z256 (s z190 299) 202
def JDR:PO:=fun P=>jf z257 z257 Jb 572 [i 174,i 2,i 0,i 0,i 3,r 204,.bool true,i 181,r 205,.none,r 206,r 207,r 208,i 577,i 174,s Jb 578]
def JCz:PO:=fun P=>jb 58 0 z257 z257 (s z190 299) 209
def JDV:PO:=fun P=>jf z259 z259 Jb 589 [i 181,i 2,i 0,i 0,i 3,r 218,.bool true,i 181,r 219,.none,r 220,r 221,r 222,i 595,i 181,s Jb 596]
def Jvt:PO:=fun P=>jb 60 0 z259 z259 (s z190 299) 223
def JBy:PO:=fun P=>je [s Jbf 601,s JI 602,s z230 603]
def JCH:PO:=fun P=>ja 61 0 z260 z260
def Jvz:PO:=fun P=>jf z260 z260 Jb 598 [i 190,i 2,i 0,i 0,i 3,r 225,.bool true,i 181,r 226,.none,r 227,r 228,r 229,i 604,i 190,s Jb 605]
def JsH:PO:=fun P=>jb 61 0 z260 z260 (s z190 299) 230
def Jyy:PO:=fun P=>je [s Jbf 610,s JI 611]
def JFf:PO:=fun P=>ja 62 0 z261 z261
def JvJ:PO:=fun P=>jf z261 z261 Jb 607 [i 195,i 2,i 0,i 0,i 3,r 232,.bool true,i 181,r 233,.none,r 234,r 235,r 236,i 612,i 195,s Jb 613]
def Juk:PO:=fun P=>jb 62 0 z261 z261 (s z190 299) 237
def JwG:PO:=fun P=>jf z268 z268 Jb 615 [i 199,i 2,i 0,i 0,i 3,r 239,.bool true,i 181,r 240,.none,r 241,r 242,r 243,i 621,i 199,s Jb 622]
def JDX:PO:=fun P=>jb 63 0 z268 z268 (s z190 299) 244
def JFN:PO:=fun P=>jf z269 z269 Jb 624 [i 204,i 2,i 0,i 0,i 3,r 246,.bool true,i 181,r 247,.none,r 248,r 249,r 250,i 630,i 204,s Jb 631]
def JCZ:PO:=fun P=>jb 64 0 z269 z269 (s z190 299) 251
def JxS:PO:=fun P=>jf z270 z270 Jb 633 [i 207,i 4,i 0,i 0,i 3,r 253,.bool true,i 181,r 254,.none,r 255,r 256,r 257,i 640,i 207,s Jb 641]
def JCT:PO:=fun P=>jb 65 0 z270 z270 (s z190 299) 258
def JBo:PO:=fun P=>jf z271 z271 Jb 643 [i 212,i 5,i 0,i 0,i 3,r 260,.bool true,i 181,r 261,.none,r 262,r 263,r 264,i 654,i 212,s Jb 655]
def JBl:PO:=fun P=>jb 66 0 z271 z271 (s z190 299) 265
def JAL:PO:=fun P=>jf z272 z272 Jb 657 [i 227,i 3,i 0,i 0,i 3,r 267,.bool true,i 181,r 268,.none,r 269,r 270,r 271,i 664,i 227,s Jb 665]
def JDl:PO:=fun P=>jb 67 0 z272 z272 (s z190 299) 272
def JEs:PO:=fun P=>jf z274 z274 Jb 675 [i 244,i 3,i 0,i 0,i 3,r 281,.bool true,i 181,r 282,.none,r 283,r 284,r 285,i 681,i 244,s Jb 682]
def JA7:PO:=fun P=>jb 69 0 z274 z274 (s z190 299) 286
def Jtb:PO:=fun P=>je [s Jbf 687,s JJu 688,s Jop 689,s Jt8 690,s Jkp 691,s JI 692]
def Jvg:PO:=fun P=>ja 70 0 JjK JjK
def Jsz:PO:=fun P=>jf JjK JjK Jb 684 [i 248,i 4,i 0,i 0,i 3,r 288,.bool true,i 181,r 289,.none,r 290,r 291,r 292,i 693,i 248,s Jb 694]
def Jta:PO:=fun P=>jb 70 0 JjK JjK (s z190 299) 293
def JxB:PO:=fun P=>n (t q54) (.dict #[e P Jai 739 (s z267 696),e P Jb8 741 (s JiH 740),e P Jag 743 (.int 271 742),e P z180 756 (r 308),e P Jah 764 (r 309)] 5)
def JwW:PO:=fun P=>jc [i 273,i 4,r 307]
def Jww:PO:=fun P=>jf JiH JiH Jb 734 [i 271,i 0,i 0,i 0,i 0,r 298,.bool false,i 181,r 299,.none,.none,.none,.none,i 737,i 271,s Jb 738]
def JCD:PO:=fun P=>⟨(t JbR),none,.plain,#[some (r 300),some (r 3),some (r 297),none,some (s z267 696),none,some (r 0)]⟩
def JAI:PO:=fun P=>je [s JR 747,s Jqy 748,s Joi 749,s Jd7 750,s Jcr 751,s JwC 752,s Jia 753]
def JFB:PO:=fun P=>ja 89 1 z180 z307
def JtP:PO:=fun P=>jf z180 z307 Jb 744 [i 273,i 7,i 0,i 0,i 3,r 302,.bool true,i 181,r 303,.none,r 304,r 305,r 306,i 754,i 273,s Jb 755]
def JtX:PO:=fun P=>jb 89 1 z180 z307 (s z267 696) 307
def JEv:PO:=fun P=>je [s JwC 757,s Jqy 758,s Jia 759,s Jcr 760,s Jd7 761,s Joi 762,s JvN 763]
def Ju3:PO:=fun P=>n (t q54) (.dict #[e P Jai 739 (s z267 696),e P Jag 743 (.int 271 742),e P z180 756 (r 308),e P Jah 764 (r 309),e P Jbp 766 (r 312),e P Ja8 768 (r 313),e P z2 769 .none] 4)
def JtS:PO:=fun P=>⟨(t q72),none,(.cls ⟨JiH,[t q63],[r 311,t q63],310,JiH,true,[],[],false,none,false⟩),#[none,none,some (s JiH 732),some (s JiH 740),some (b JcY),some (.bool true)]⟩
def JCk:PO:=fun P=>n (t Jbd) (.fields #[s Jbp 765,r 311,b JeI,b JeE])
def JAg:PO:=fun P=>n (t Jbd) (.fields #[s Ja8 767,r 311,b Jef,.none])
def JDh:PO:=fun P=>n (t q70) (.fields #[r 311,r 311,r 311])
def JzN:PO:=fun P=>n (t Jb3) (.fields #[b Jb9,r 311])
def JzL:PO:=fun P=>jf z180 z315 Jb 784 [i 283,i 1,i 0,i 0,i 3,r 323,.bool true,i 181,r 324,.none,r 325,r 326,r 327,i 788,i 283,s Jb 789]
def Jz7:PO:=fun P=>jb 90 1 z180 z315 (s z267 696) 328
def JDw:PO:=fun P=>n (t q54) (.dict #[e P Jai 779 (s z267 696),e P Jag 783 (.int 281 782),e P z180 790 (r 329),e P Jah 798 (r 330),e P Jbp 800 (r 333),e P Ja8 802 (r 334),e P z2 803 .none] 4)
def JAG:PO:=fun P=>⟨(t q72),none,(.cls ⟨JgJ,[t q63],[r 332,t q63],331,JgJ,true,[],[],false,none,false⟩),#[none,none,some (s JgJ 772),some (s JgJ 780),some (b JcY),some (.bool true)]⟩
def Jyr:PO:=fun P=>jf z310 z310 Jb 806 [i 291,i 2,i 0,i 0,i 3,r 337,.bool true,i 181,r 338,.none,r 339,r 340,r 341,i 814,i 291,s Jb 815]
def JDu:PO:=fun P=>jb 91 0 z310 z310 (s z267 696) 342
def JCe:PO:=fun P=>je [s Ja7 830,s JI 831,s JhC 832]
def JDc:PO:=fun P=>ja 93 0 Jij Jij
def JC7:PO:=fun P=>jf Jij Jij Jb 827 [i 304,i 2,i 0,i 0,i 3,r 351,.bool true,i 181,r 352,.none,r 353,r 354,r 355,i 833,i 304,s Jb 834]
def JCj:PO:=fun P=>jb 93 0 Jij Jij (s z267 696) 356
def JD2:PO:=fun P=>je [s Ja7 839,s JhC 840,s Jd7 841,s Jkp 842,s Jgp 843]
def JxT:PO:=fun P=>ja 94 0 JhX JhX
def Jzt:PO:=fun P=>jf JhX JhX Jb 836 [i 309,i 3,i 0,i 0,i 3,r 358,.bool true,i 181,r 359,.none,r 360,r 361,r 362,i 844,i 309,s Jb 845]
def JDN:PO:=fun P=>jb 94 0 JhX JhX (s z267 696) 363
def JBC:PO:=fun P=>je [s Ja7 850,s JI 851,s Jbf 852,s z248 853,s JnW 854]
def JBh:PO:=fun P=>ja 95 0 Jit Jit
def JwE:PO:=fun P=>jf Jit Jit Jb 847 [i 315,i 2,i 0,i 0,i 3,r 365,.bool true,i 181,r 366,.none,r 367,r 368,r 369,i 855,i 315,s Jb 856]
def JDZ:PO:=fun P=>jb 95 0 Jit Jit (s z267 696) 370
def JFH:PO:=fun P=>jf z327 z327 Jb 866 [i 340,i 2,i 0,i 0,i 3,r 379,.bool true,i 181,r 380,.none,r 381,r 382,r 383,i 872,i 340,s Jb 873]
def JEx:PO:=fun P=>jb 97 0 z327 z327 (s z267 696) 384
def JCJ:PO:=fun P=>je [.int 1 724,.int 2 726,.int 3 728]
def JBV:PO:=fun P=>jf z336 z336 Jb 900 [i 361,i 2,i 0,i 0,i 3,r 394,.bool true,i 181,r 395,.none,r 396,r 397,r 398,i 910,i 361,s Jb 911]
def JwY:PO:=fun P=>jb 107 0 z336 z336 (s z348 897) 399
def JyY:PO:=fun P=>jf z337 z337 Jb 913 [i 375,i 2,i 0,i 0,i 3,r 401,.bool true,i 181,r 402,.none,r 403,r 404,r 405,i 919,i 375,s Jb 920]
def JxV:PO:=fun P=>jb 108 0 z337 z337 (s z348 897) 406
def JwD:PO:=fun P=>jf z338 z338 Jb 922 [i 382,i 2,i 0,i 0,i 3,r 408,.bool true,i 181,r 409,.none,r 410,r 411,r 412,i 927,i 382,s Jb 928]
def JA2:PO:=fun P=>jb 109 0 z338 z338 (s z348 897) 413
def Jxv:PO:=fun P=>je [s Jf5 933,s JI 934,s Jkp 935,s JlT 936]
def JzR:PO:=fun P=>ja 110 0 Jiv Jiv
def Jxw:PO:=fun P=>jf Jiv Jiv Jb 930 [i 384,i 2,i 0,i 0,i 3,r 415,.bool true,i 181,r 416,.none,r 417,r 418,r 419,i 937,i 384,s Jb 938]
def JxE:PO:=fun P=>jb 110 0 Jiv Jiv (s z348 897) 420
def JBG:PO:=fun P=>je [s Ja7 945,s JI 946,s Jkp 947,s JlT 948]
def JyZ:PO:=fun P=>ja 112 0 JiP JiP
def JAa:PO:=fun P=>jf JiP JiP Jb 942 [i 393,i 2,i 0,i 0,i 3,r 422,.bool true,i 181,r 423,.none,r 424,r 425,r 426,i 949,i 393,s Jb 950]
def JwP:PO:=fun P=>jb 112 0 JiP JiP (s JLg 940) 427
def Jzq:PO:=fun P=>n (t Jbd) (.fields #[s Ja8 995,r 446,b Jef,.none])
def JEo:PO:=fun P=>n (t q70) (.fields #[r 446,r 446,r 446])
def JEB:PO:=fun P=>n (t Jb3) (.fields #[b Jb9,r 446])
def JFg:PO:=fun P=>je [s Ja7 1003,s JI 1004,s Jkp 1005,s Jdk 1006]
def JDq:PO:=fun P=>ja 117 0 JiD JiD
def Jyd:PO:=fun P=>jf JiD JiD Jb 1000 [i 412,i 2,i 0,i 0,i 3,r 451,.bool true,i 181,r 452,.none,r 453,r 454,r 455,i 1007,i 412,s Jb 1008]
def Jyk:PO:=fun P=>jb 117 0 JiD JiD (s JcJ 952) 456
def JxW:PO:=fun P=>je [s Ja7 1013,s JF7 1014,s Jmw 1015]
def JCh:PO:=fun P=>ja 118 0 JiB JiB
def JzV:PO:=fun P=>jf JiB JiB Jb 1010 [i 420,i 3,i 0,i 0,i 3,r 458,.bool true,i 181,r 459,.none,r 460,r 461,r 462,i 1016,i 420,s Jb 1017]
def Jzp:PO:=fun P=>jb 118 0 JiB JiB (s JcJ 952) 463
def Jyz:PO:=fun P=>jf Jik Jik Jb 1098 [i 489,i 2,i 0,i 0,i 3,r 507,.bool true,i 181,r 508,.none,r 509,r 510,r 511,i 1104,i 489,s Jb 1105]
def JAx:PO:=fun P=>jb 125 0 Jik Jik (s JcJ 952) 512
def JDT:PO:=fun P=>je [s Ja7 1110,s JCn 1111,s JE1 1112,s JC5 1113,s Jxj 1114,s JKP 1115,s JHj 1116,s JBb 1117,s JIA 1118,s JI 1119]
def JxP:PO:=fun P=>ja 126 0 JhP JhP
def JED:PO:=fun P=>jf JhP JhP Jb 1107 [i 492,i 5,i 0,i 0,i 3,r 514,.bool true,i 181,r 515,.none,r 516,r 517,r 518,i 1120,i 492,s Jb 1121]
def JA9:PO:=fun P=>jb 126 0 JhP JhP (s JcJ 952) 519
def JAu:PO:=fun P=>je [s Ja7 1126,s JCn 1127,s JE1 1128,s JC5 1129,s Jxj 1130,s JJH 1131,s JAR 1132,s JH3 1133]
def JC2:PO:=fun P=>ja 127 0 Jii Jii
def JA3:PO:=fun P=>jf Jii Jii Jb 1123 [i 503,i 6,i 0,i 0,i 3,r 521,.bool true,i 181,r 522,.none,r 523,r 524,r 525,i 1134,i 503,s Jb 1135]
def JyQ:PO:=fun P=>jb 127 0 Jii Jii (s JcJ 952) 526
def JBW:PO:=fun P=>je [s Ja7 1140,s Jky 1141,s z374 1142,s JE8 1143,s JGQ 1144]
def JxJ:PO:=fun P=>ja 128 0 Jiz Jiz
def JAv:PO:=fun P=>jf Jiz Jiz Jb 1137 [i 511,i 3,i 0,i 0,i 3,r 528,.bool true,i 181,r 529,.none,r 530,r 531,r 532,i 1145,i 511,s Jb 1146]
def JwB:PO:=fun P=>jb 128 0 Jiz Jiz (s JcJ 952) 533
def JAQ:PO:=fun P=>je [s JlZ 1151,s Jgp 1152]
def JDI:PO:=fun P=>ja 129 0 Jid Jid
def JzK:PO:=fun P=>jf Jid Jid Jb 1148 [i 517,i 2,i 0,i 0,i 3,r 535,.bool true,i 181,r 536,.none,r 537,r 538,r 539,i 1153,i 517,s Jb 1154]
def JyC:PO:=fun P=>jb 129 0 Jid Jid (s JcJ 952) 540
def JxR:PO:=fun P=>n (t q54) (.dict #[e P Jai 1169 (s z358 1156),e P Jb8 1171 (s Jh7 1170),e P Jag 1173 (.int 522 1172),e P z180 1185 (r 555),e P Jah 1192 (r 556)] 5)
def JFA:PO:=fun P=>jc [i 524,i 4,r 554]
def JzF:PO:=fun P=>jf Jh7 Jh7 Jb 1164 [i 522,i 0,i 0,i 0,i 0,r 545,.bool false,i 181,r 546,.none,.none,.none,.none,i 1167,i 522,s Jb 1168]
def JDg:PO:=fun P=>⟨(t JbR),none,.plain,#[some (r 547),some (r 3),some (r 544),none,some (s z358 1156),none,some (r 0)]⟩
def JE7:PO:=fun P=>je [s JR 1177,s Jcr 1178,s Jzf 1179,s JDk 1180,s JzD 1181,s Jdk 1182]
def Jyh:PO:=fun P=>ja 133 1 z180 z399
def Juy:PO:=fun P=>jf z180 z399 Jb 1174 [i 524,i 6,i 0,i 0,i 3,r 549,.bool true,i 181,r 550,.none,r 551,r 552,r 553,i 1183,i 524,s Jb 1184]
def Jvo:PO:=fun P=>jb 133 1 z180 z399 (s z358 1156) 554
def JCF:PO:=fun P=>je [s Jzf 1186,s Jdk 1187,s JDk 1188,s Jcr 1189,s JzD 1190,s JGM 1191]
def Js0:PO:=fun P=>n (t q54) (.dict #[e P Jai 1169 (s z358 1156),e P Jag 1173 (.int 522 1172),e P z180 1185 (r 555),e P Jah 1192 (r 556),e P Jbp 1194 (r 559),e P Ja8 1196 (r 560),e P z2 1197 .none] 4)
def Jvn:PO:=fun P=>⟨(t q72),none,(.cls ⟨Jh7,[t q63],[r 558,t q63],557,Jh7,true,[],[],false,none,false⟩),#[none,none,some (s Jh7 1162),some (s Jh7 1170),some (b JcY),some (.bool true)]⟩
def JFO:PO:=fun P=>n (t Jbd) (.fields #[s Jbp 1193,r 558,b JeI,b JeE])
def JxH:PO:=fun P=>n (t Jbd) (.fields #[s Ja8 1195,r 558,b Jef,.none])
def JDK:PO:=fun P=>n (t q70) (.fields #[r 558,r 558,r 558])
def Jy5:PO:=fun P=>n (t Jb3) (.fields #[b Jb9,r 558])
def JFe:PO:=fun P=>jf z180 z413 Jb 1212 [i 533,i 1,i 0,i 0,i 3,r 570,.bool true,i 181,r 571,.none,r 572,r 573,r 574,i 1216,i 533,s Jb 1217]
def JuZ:PO:=fun P=>jb 134 1 z180 z413 (s z358 1156) 575
def JDi:PO:=fun P=>je [s JR 1222,s JiR 1223,s Jdk 1224,s JmJ 1225]
def JFy:PO:=fun P=>ja 134 2 z231 z415
def Juw:PO:=fun P=>jf z231 z415 Jb 1219 [i 536,i 4,i 0,i 0,i 3,r 577,.bool true,i 181,r 578,.none,r 579,r 580,r 581,i 1226,i 536,s Jb 1227]
def JuK:PO:=fun P=>jb 134 2 z231 z415 (s z358 1156) 582
def JAN:PO:=fun P=>je [s JR 1232,s JIt 1233]
def JyB:PO:=fun P=>ja 134 3 JnG Jts
def Jy2:PO:=fun P=>jf JnG Jts Jb 1229 [i 539,i 2,i 0,i 0,i 3,r 584,.bool true,i 181,r 585,.none,r 586,r 587,r 588,i 1234,i 539,s Jb 1235]
def JAV:PO:=fun P=>jb 134 3 JnG Jts (s z358 1156) 589
def JyR:PO:=fun P=>ja 134 4 Jmx JvT
def Jxr:PO:=fun P=>jf Jmx JvT Jb 1237 [i 543,i 1,i 0,i 0,i 3,r 591,.bool true,i 181,r 592,.none,.none,.none,r 593,i 1240,i 543,s Jb 1241]
def JEf:PO:=fun P=>jb 134 4 Jmx JvT (s z358 1156) 594
def JAB:PO:=fun P=>je [s Jl4 1243]
def JsA:PO:=fun P=>n (t q54) (.dict #[e P Jai 1207 (s z358 1156),e P Jag 1211 (.int 531 1210),e P z180 1218 (r 576),e P z231 1228 (r 583),e P JnG 1236 (r 590),e P Jmx 1242 (r 595),e P Jah 1244 (r 596),e P Jbp 1246 (r 599),e P Ja8 1248 (r 600),e P z2 1249 .none] 4)
def Jtt:PO:=fun P=>⟨(t q72),none,(.cls ⟨Jip,[t q63],[r 598,t q63],597,Jip,true,[],[],false,none,false⟩),#[none,none,some (s Jip 1200),some (s Jip 1208),some (b JcY),some (.bool true)]⟩
def JBc:PO:=fun P=>n (t Jbd) (.fields #[s Jbp 1245,r 598,b JeI,b JeE])
def JzQ:PO:=fun P=>n (t Jbd) (.fields #[s Ja8 1247,r 598,b Jef,.none])
def JCC:PO:=fun P=>n (t q70) (.fields #[r 598,r 598,r 598])
def JAM:PO:=fun P=>n (t Jb3) (.fields #[b Jb9,r 598])
def JE5:PO:=fun P=>jf Jgu Jgu Jb 1278 [i 557,i 0,i 0,i 0,i 0,r 606,.bool false,i 181,r 607,.none,.none,.none,.none,i 1281,i 557,s Jb 1282]
def JyV:PO:=fun P=>⟨(t JbR),none,.plain,#[some (r 608),some (r 3),some (r 605),none,some (s z401 1252),none,some (r 0)]⟩
def JA8:PO:=fun P=>je [s JR 1291,s Ja7 1292,s JjL 1293]
def Jzn:PO:=fun P=>ja 147 1 z180 z426
def JsN:PO:=fun P=>jf z180 z426 Jb 1288 [i 559,i 3,i 0,i 0,i 3,r 610,.bool true,i 181,r 611,.none,r 612,r 613,r 614,i 1294,i 559,s Jb 1295]
def JsM:PO:=fun P=>jb 147 1 z180 z426 (s z401 1252) 615
def Jx1:PO:=fun P=>je [s JjL 1297,s JNq 1298,s JDO 1299,s JJT 1300,s JGP 1301,s JHi 1302,s JIC 1303,s Ja7 1304,s z49 1305]
def JtZ:PO:=fun P=>n (t q54) (.dict #[e P Jai 1283 (s z401 1252),e P Jag 1287 (.int 557 1286),e P z180 1296 (r 616),e P Jah 1306 (r 617),e P Jbp 1308 (r 620),e P Ja8 1310 (r 621),e P z2 1311 .none] 4)
def JuY:PO:=fun P=>⟨(t q72),none,(.cls ⟨Jgu,[t q63],[r 619,t q63],618,Jgu,true,[],[],false,none,false⟩),#[none,none,some (s Jgu 1276),some (s Jgu 1284),some (b JcY),some (.bool true)]⟩
def JAP:PO:=fun P=>n (t Jbd) (.fields #[s Jbp 1307,r 619,b JeI,b JeE])
def JFV:PO:=fun P=>n (t Jbd) (.fields #[s Ja8 1309,r 619,b Jef,.none])
def JzM:PO:=fun P=>n (t q70) (.fields #[r 619,r 619,r 619])
def JFp:PO:=fun P=>n (t Jb3) (.fields #[b Jb9,r 619])
def JyM:PO:=fun P=>je [s JR 1343,s JaR 1344,s JaN 1345,s Jpr 1346,s Jia 1347]
def JDs:PO:=fun P=>ja 150 2 Jn4 Jtl
def Jw0:PO:=fun P=>jf Jn4 Jtl Jb 1340 [i 576,i 5,i 0,i 0,i 3,r 638,.bool true,i 181,r 639,.none,r 640,r 641,r 642,i 1348,i 576,s Jb 1349]
def JDv:PO:=fun P=>jb 150 2 Jn4 Jtl (s z419 1314) 643
def Jt6:PO:=fun P=>n (t q54) (.dict #[e P Jai 1325 (s z419 1314),e P Jag 1329 (.int 571 1328),e P z434 1339 (r 637),e P Jn4 1350 (r 644),e P Jah 1351 (r 645),e P Jbp 1353 (r 648),e P Ja8 1355 (r 649),e P z2 1356 .none] 4)
def JsJ:PO:=fun P=>⟨(t q72),none,(.cls ⟨JgL,[t q63],[r 647,t q63],646,JgL,true,[],[],false,none,false⟩),#[none,none,some (s JgL 1318),some (s JgL 1326),some (b JcY),some (.bool true)]⟩
def Jze:PO:=fun P=>n (t Jbd) (.fields #[s Jbp 1352,r 647,b JeI,b JeE])
def JzU:PO:=fun P=>n (t Jbd) (.fields #[s Ja8 1354,r 647,b Jef,.none])
def JDf:PO:=fun P=>n (t q70) (.fields #[r 647,r 647,r 647])
def JBL:PO:=fun P=>n (t Jb3) (.fields #[b Jb9,r 647])
def JAt:PO:=fun P=>jf z180 z452 Jb 1371 [i 580,i 1,i 0,i 0,i 3,r 659,.bool true,i 181,r 660,.none,r 661,r 662,r 663,i 1375,i 580,s Jb 1376]
def Jw9:PO:=fun P=>jb 151 1 z180 z452 (s z419 1314) 664
def JDD:PO:=fun P=>jf z442 z455 Jb 1378 [i 586,i 6,i 0,i 0,i 3,r 666,.bool true,i 181,r 667,.none,r 668,r 669,r 670,i 1387,i 586,s Jb 1388]
def JEW:PO:=fun P=>jb 151 2 z442 z455 (s z419 1314) 671
def JAr:PO:=fun P=>je [s JR 1479,s JaR 1480,s Jfb 1481,s JaN 1482]
def JCE:PO:=fun P=>ja 151 12 Jm3 Js8
def JEm:PO:=fun P=>jf Jm3 Js8 Jb 1476 [i 616,i 4,i 0,i 0,i 3,r 736,.bool true,i 181,r 737,.none,r 738,r 739,r 740,i 1483,i 616,s Jb 1484]
def JyU:PO:=fun P=>jb 151 12 Jm3 Js8 (s z419 1314) 741
def Jzi:PO:=fun P=>je [s JLa 1486,s JID 1487,s JJP 1488,s JFD 1489]
def Jsn:PO:=fun P=>n (t q54) (.dict (k60 P++k61 P++k62 P).toArray 4)
def Jtp:PO:=fun P=>⟨(t q72),none,(.cls ⟨Jio,[t q63],[r 745,t q63],744,Jio,true,[],[],false,none,false⟩),#[none,none,some (s Jio 1359),some (s Jio 1367),some (b JcY),some (.bool true)]⟩
def Jz4:PO:=fun P=>n (t Jbd) (.fields #[s Jbp 1491,r 745,b JeI,b JeE])
def JwT:PO:=fun P=>n (t Jbd) (.fields #[s Ja8 1493,r 745,b Jef,.none])
def Jy8:PO:=fun P=>n (t q70) (.fields #[r 745,r 745,r 745])
def JEj:PO:=fun P=>n (t Jb3) (.fields #[b Jb9,r 745])
def JyT:PO:=fun P=>jf z474 z475 Jb 1510 [i 620,i 5,i 0,i 0,i 3,r 757,.bool true,i 181,r 758,.none,r 759,r 760,r 761,i 1518,i 620,s Jb 1519]
def Jz5:PO:=fun P=>jb 152 1 z474 z475 (s z419 1314) 762
def JBR:PO:=fun P=>n (t q54) (.dict #[e P Jai 1505 (s z419 1314),e P Jag 1509 (.int 618 1508),e P z474 1520 (r 763),e P Jah 1521 (r 764),e P Jbp 1523 (r 767),e P Ja8 1525 (r 768),e P z2 1526 .none] 4)
def JyW:PO:=fun P=>⟨(t q72),none,(.cls ⟨Jed,[t q63],[r 766,t q63],765,Jed,true,[],[],false,none,false⟩),#[none,none,some (s Jed 1498),some (s Jed 1506),some (b JcY),some (.bool true)]⟩
def Jsq:PO:=fun P=>n (t Jbd) (.fields #[s Ja8 1524,r 766,b Jef,.none])
def JtR:PO:=fun P=>n (t q70) (.fields #[r 766,r 766,r 766])
def Jss:PO:=fun P=>n (t Jb3) (.fields #[b Jb9,r 766])
def JE2:PO:=fun P=>n (t q54) (.dict #[e P Jai 1536 (s z419 1314),e P Jb8 1538 (s Jer 1537),e P Jag 1540 (.int 622 1539),e P JdQ 1550 (r 784),e P Jah 1551 (r 785)] 5)
def JCa:PO:=fun P=>jc [i 624,i 4,r 783]
def JDW:PO:=fun P=>jf Jer Jer Jb 1531 [i 622,i 0,i 0,i 0,i 0,r 774,.bool false,i 181,r 775,.none,.none,.none,.none,i 1534,i 622,s Jb 1535]
def Jwt:PO:=fun P=>⟨(t JbR),none,.plain,#[some (r 776),some (r 3),some (r 773),none,some (s z419 1314),none,some (r 0)]⟩
def Jw3:PO:=fun P=>je [s JR 1544,s JaR 1545,s JI 1546,s JaN 1547]
def JBO:PO:=fun P=>ja 153 1 JdQ Js4
def JAS:PO:=fun P=>jf JdQ Js4 Jb 1541 [i 624,i 4,i 0,i 0,i 3,r 778,.bool true,i 181,r 779,.none,r 780,r 781,r 782,i 1548,i 624,s Jb 1549]
def JBg:PO:=fun P=>jb 153 1 JdQ Js4 (s z419 1314) 783
def JtQ:PO:=fun P=>n (t q54) (.dict #[e P Jai 1536 (s z419 1314),e P Jag 1540 (.int 622 1539),e P JdQ 1550 (r 784),e P Jah 1551 (r 785),e P Jbp 1553 (r 788),e P Ja8 1555 (r 789),e P z2 1556 .none] 4)
def Jvc:PO:=fun P=>⟨(t q72),none,(.cls ⟨Jer,[t q63],[r 787,t q63],786,Jer,true,[],[],false,none,false⟩),#[none,none,some (s Jer 1529),some (s Jer 1537),some (b JcY),some (.bool true)]⟩
def Jz2:PO:=fun P=>n (t Jbd) (.fields #[s Jbp 1552,r 787,b JeI,b JeE])
def JEy:PO:=fun P=>n (t Jbd) (.fields #[s Ja8 1554,r 787,b Jef,.none])
def JFY:PO:=fun P=>n (t q70) (.fields #[r 787,r 787,r 787])
def JzI:PO:=fun P=>n (t Jb3) (.fields #[b Jb9,r 787])
def JB2:PO:=fun P=>jf z481 z486 Jb 1599 [i 649,i 2,i 0,i 0,i 3,r 820,.bool true,i 181,r 821,.none,r 822,r 823,r 824,i 1604,i 649,s Jb 1605]
def Jxg:PO:=fun P=>jb 154 4 z481 z486 (s z419 1314) 825
def JCu:PO:=fun P=>jf JdQ JtB Jb 1607 [i 652,i 3,i 0,i 0,i 3,r 827,.bool true,i 181,r 828,.none,r 829,r 830,r 831,i 1613,i 652,s Jb 1614]
def JwQ:PO:=fun P=>jb 154 5 JdQ JtB (s z419 1314) 832
def JC3:PO:=fun P=>je [s JjL 1616,s Jtw 1617,s Jf5 1618,s Jpr 1619,s Jbf 1620,s Jgp 1621,s Joi 1622,s JlV 1623,s Ja7 1624,s JmI 1625,s Ju2 1626,s Ji4 1627,s Jt3 1628]
def JtN:PO:=fun P=>n (t q54) (.dict #[e P Jai 1566 (s z419 1314),e P Jag 1570 (.int 626 1569),e P z180 1580 (r 805),e P Jcr 1588 (r 812),e P z480 1598 (r 819),e P z481 1606 (r 826),e P JdQ 1615 (r 833),e P Jah 1629 (r 834),e P Jbp 1631 (r 837),e P Ja8 1633 (r 838),e P z2 1634 .none] 4)
def JCX:PO:=fun P=>n (t Jbd) (.fields #[s Jbp 1630,r 836,b JeI,b JeE])
def Jxx:PO:=fun P=>n (t Jbd) (.fields #[s Ja8 1632,r 836,b Jef,.none])
def JCq:PO:=fun P=>n (t q70) (.fields #[r 836,r 836,r 836])
def Jyf:PO:=fun P=>n (t Jb3) (.fields #[b Jb9,r 836])
def JzZ:PO:=fun P=>⟨(t q72),none,(.cls ⟨Jdj,[t q63],[r 836,t q63],835,Jdj,true,[],[r 878],false,none,false⟩),#[none,none,some (s Jdj 1559),some (s Jdj 1567),some (b JcY),some (.bool true)]⟩
def JxD:PO:=fun P=>je [s JR 1671,s Jfb 1672,s JI 1673,s JaN 1674]
def JAl:PO:=fun P=>ja 155 3 z434 JuO
def JEZ:PO:=fun P=>jf z434 JuO Jb 1668 [i 681,i 4,i 0,i 0,i 3,r 862,.bool true,i 181,r 863,.none,r 864,r 865,r 866,i 1675,i 681,s Jb 1676]
def JyJ:PO:=fun P=>jb 155 3 z434 JuO (s z419 1314) 867
def JFT:PO:=fun P=>je [s JR 1681,s Jfb 1682,s JI 1683,s JaN 1684,s Jtx 1685]
def JBD:PO:=fun P=>ja 155 4 z442 Js1
def Jyl:PO:=fun P=>jf z442 Js1 Jb 1678 [i 684,i 5,i 0,i 0,i 3,r 869,.bool true,i 181,r 870,.none,r 871,r 872,r 873,i 1686,i 684,s Jb 1687]
def Jxa:PO:=fun P=>jb 155 4 z442 Js1 (s z419 1314) 874
def Jx8:PO:=fun P=>je [s JjL 1689,s Jdk 1690,s Jpw 1691,s JCc 1692,s Jtw 1693,s JBm 1694,s JBs 1695,s JEF 1696,s Jf5 1697,s Jpr 1698,s Jbf 1699,s Jgp 1700,s Joi 1701,s JlV 1702,s Ja7 1703,s JmI 1704,s Ju2 1705,s Jwv 1706,s Ji4 1707,s Jt3 1708]
def JuA:PO:=fun P=>n (t q54) (.dict #[e P Jai 1644 (s z419 1314),e P Jag 1648 (.int 654 1647),e P z180 1658 (r 854),e P JgU 1667 (r 861),e P z434 1677 (r 868),e P z442 1688 (r 875),e P Jah 1709 (r 876),e P z2 1710 .none] 2)
def JDU:PO:=fun P=>n (t q70) (.fields #[r 878,r 878,r 878])
def JBe:PO:=fun P=>n (t Jb3) (.fields #[b Jb9,r 878])
def Jzw:PO:=fun P=>⟨(t q72),none,(.cls ⟨JdP,[r 836],[r 878,r 836,t q63],877,JdP,true,[],[r 974],false,none,false⟩),#[some (r 841),none,some (s JdP 1637),some (s JdP 1645),some (b JcY),some (.bool true)]⟩
def JDj:PO:=fun P=>jf z180 z512 Jb 1725 [i 688,i 4,i 0,i 0,i 3,r 888,.bool true,i 181,r 889,.none,r 890,r 891,r 892,i 1732,i 688,s Jb 1733]
def JB1:PO:=fun P=>jb 156 1 z180 z512 (s z419 1314) 893
def JFz:PO:=fun P=>jf z434 z516 Jb 1760 [i 733,i 4,i 0,i 0,i 3,r 916,.bool true,i 181,r 917,.none,r 918,r 919,r 920,i 1767,i 733,s Jb 1768]
def JxN:PO:=fun P=>jb 156 5 z434 z516 (s z419 1314) 921
def Jzj:PO:=fun P=>jf z480 z518 Jb 1781 [i 739,i 4,i 0,i 0,i 3,r 930,.bool true,i 181,r 931,.none,r 932,r 933,r 934,i 1788,i 739,s Jb 1789]
def JEI:PO:=fun P=>jb 156 7 z480 z518 (s z419 1314) 935
def JFu:PO:=fun P=>je [s JR 1821]
def JEM:PO:=fun P=>ja 156 11 JoX Jvp
def JCd:PO:=fun P=>jf JoX Jvp Jb 1818 [i 751,i 1,i 0,i 0,i 3,r 958,.bool true,i 181,r 959,.none,r 960,r 961,r 962,i 1822,i 751,s Jb 1823]
def Jzg:PO:=fun P=>jb 156 11 JoX Jvp (s z419 1314) 963
def Jxf:PO:=fun P=>je [s JR 1828]
def JBK:PO:=fun P=>ja 156 12 Jpc JuW
def JEQ:PO:=fun P=>jf Jpc JuW Jb 1825 [i 754,i 1,i 0,i 0,i 3,r 965,.bool true,i 181,r 966,.none,r 967,r 968,r 969,i 1829,i 754,s Jb 1830]
def JwX:PO:=fun P=>jb 156 12 Jpc JuW (s z419 1314) 970
def JFK:PO:=fun P=>n (t q71) (.seq (y37++y38++y39).toArray 0)
def Ju9:PO:=fun P=>n (t q54) (.dict #[e P Jai 1720 (s z419 1314),e P Jag 1724 (.int 686 1723),e P z180 1734 (r 894),e P JgU 1743 (r 901),e P JoH 1751 (r 908),e P Jcr 1759 (r 915),e P z434 1769 (r 922),e P z442 1780 (r 929),e P z480 1790 (r 936),e P JdQ 1799 (r 943),e P JoC 1809 (r 950),e P Jnt 1817 (r 957),e P JoX 1824 (r 964),e P Jpc 1831 (r 971),e P Jah 1866 (r 972),e P z2 1867 .none] 2)
def Juz:PO:=fun P=>⟨(t q72),none,(.cls ⟨JgP,[r 878],[r 974,r 878,r 836,t q63],973,JgP,true,[],[],false,none,false⟩),#[some (r 881),none,some (s JgP 1713),some (s JgP 1721),some (b JcY),some (.bool true)]⟩
def JzT:PO:=fun P=>n (t q70) (.fields #[r 974,r 974,r 974])
def Jzb:PO:=fun P=>n (t Jb3) (.fields #[b Jb9,r 974])
def JFS:PO:=fun P=>jf z536 z536 Jb 1870 [i 756,i 1,i 0,i 0,i 3,r 977,.bool true,i 181,r 978,.none,r 979,r 980,r 981,i 1874,i 756,s Jb 1875]
def JAA:PO:=fun P=>jb 157 0 z536 z536 (s z419 1314) 982
def Jw5:PO:=fun P=>jf z537 z537 Jb 1877 [i 758,i 5,i 0,i 0,i 3,r 984,.bool true,i 181,r 985,.none,r 986,r 987,r 988,i 1886,i 758,s Jb 1887]
def JFQ:PO:=fun P=>jb 158 0 z537 z537 (s z419 1314) 989
def JDt:PO:=fun P=>jf z538 z538 Jb 1889 [i 766,i 1,i 0,i 0,i 3,r 991,.bool true,i 181,r 992,.none,r 993,r 994,r 995,i 1893,i 766,s Jb 1894]
def JA1:PO:=fun P=>jb 159 0 z538 z538 (s z419 1314) 996
def Jw8:PO:=fun P=>jf z539 z539 Jb 1896 [i 768,i 2,i 0,i 0,i 3,r 998,.bool true,i 181,r 999,.none,r 1000,r 1001,r 1002,i 1901,i 768,s Jb 1902]
def JBn:PO:=fun P=>jb 160 0 z539 z539 (s z419 1314) 1003
def Ju1:PO:=fun P=>jf z555 z555 Jb 1950 [i 802,i 4,i 0,i 0,i 3,r 1019,.bool true,i 181,r 1020,.none,r 1021,r 1022,r 1023,i 1957,i 802,s Jb 1958]
def Juq:PO:=fun P=>jb 177 0 z555 z555 (s z535 1922) 1024
def JAb:PO:=fun P=>ja 178 0 z556 z556
def Jsx:PO:=fun P=>jf z556 z556 Jb 1960 [i 805,i 3,i 0,i 0,i 3,r 1026,.bool true,i 181,r 1027,.none,.none,.none,r 1028,i 1963,i 805,s Jb 1964]
def JvO:PO:=fun P=>jb 178 0 z556 z556 (s z535 1922) 1029
def JxG:PO:=fun P=>jf z561 z561 Jb 1977 [i 825,i 1,i 0,i 0,i 3,r 1038,.bool true,i 181,r 1039,.none,r 1040,r 1041,r 1042,i 1981,i 825,s Jb 1982]
def JC8:PO:=fun P=>jb 180 0 z561 z561 (s z535 1922) 1043
def JCU:PO:=fun P=>jf z562 z562 Jb 1984 [i 827,i 2,i 0,i 0,i 3,r 1045,.bool true,i 181,r 1046,.none,r 1047,r 1048,r 1049,i 1989,i 827,s Jb 1990]
def JDJ:PO:=fun P=>jb 181 0 z562 z562 (s z535 1922) 1050
def JCO:PO:=fun P=>jf z563 z563 Jb 1992 [i 831,i 3,i 0,i 0,i 3,r 1052,.bool true,i 181,r 1053,.none,r 1054,r 1055,r 1056,i 2000,i 831,s Jb 2001]
def JBz:PO:=fun P=>jb 182 0 z563 z563 (s z535 1922) 1057
def JAs:PO:=fun P=>jf z564 z564 Jb 2003 [i 841,i 6,i 0,i 0,i 3,r 1059,.bool true,i 181,r 1060,.none,r 1061,r 1062,r 1063,i 2012,i 841,s Jb 2013]
def JEN:PO:=fun P=>jb 183 0 z564 z564 (s z535 1922) 1064
def JCt:PO:=fun P=>jf z565 z565 Jb 2015 [i 851,i 5,i 0,i 0,i 3,r 1066,.bool true,i 181,r 1067,.none,r 1068,r 1069,r 1070,i 2026,i 851,s Jb 2027]
def JFR:PO:=fun P=>jb 184 0 z565 z565 (s z535 1922) 1071
def Jxc:PO:=fun P=>jf z566 z566 Jb 2029 [i 872,i 4,i 0,i 0,i 3,r 1073,.bool true,i 181,r 1074,.none,r 1075,r 1076,r 1077,i 2038,i 872,s Jb 2039]
def JAH:PO:=fun P=>jb 185 0 z566 z566 (s z535 1922) 1078
def JD6:PO:=fun P=>jf z567 z567 Jb 2041 [i 878,i 6,i 0,i 0,i 3,r 1080,.bool true,i 181,r 1081,.none,r 1082,r 1083,r 1084,i 2053,i 878,s Jb 2054]
def JCv:PO:=fun P=>jb 186 0 z567 z567 (s z535 1922) 1085
def JFv:PO:=fun P=>ja 187 0 Jir Jir
def JzA:PO:=fun P=>jf Jir Jir Jb 2056 [i 892,i 5,i 0,i 0,i 3,r 1087,.bool true,i 181,r 1088,.none,.none,.none,r 1089,i 2059,i 892,s Jb 2060]
def JBT:PO:=fun P=>jb 187 0 Jir Jir (s z535 1922) 1090
def Jxd:PO:=fun P=>je [s JaR 2065,s Jdk 2066,s z230 2067,s Jmw 2068,s JIs 2069,s JnW 2070,s JvD 2071]
def JAi:PO:=fun P=>ja 188 0 JiG JiG
def Jz8:PO:=fun P=>jf JiG JiG Jb 2062 [i 898,i 4,i 0,i 0,i 3,r 1092,.bool true,i 181,r 1093,.none,r 1094,r 1095,r 1096,i 2072,i 898,s Jb 2073]
def JEH:PO:=fun P=>jb 188 0 JiG JiG (s z535 1922) 1097
def JyH:PO:=fun P=>je [s JaR 2078,s Jdk 2079,s z230 2080,s Jmw 2081]
def JFn:PO:=fun P=>ja 189 0 z570 z570
def Jt0:PO:=fun P=>jf z570 z570 Jb 2075 [i 911,i 4,i 0,i 0,i 3,r 1099,.bool true,i 181,r 1100,.none,r 1101,r 1102,r 1103,i 2082,i 911,s Jb 2083]
def JuJ:PO:=fun P=>jb 189 0 z570 z570 (s z535 1922) 1104
def JBP:PO:=fun P=>je [s JaR 2088,s Jvj 2089,s JlZ 2090,s Jx9 2091]
def JCw:PO:=fun P=>ja 190 0 JiC JiC
def Jxo:PO:=fun P=>jf JiC JiC Jb 2085 [i 917,i 2,i 0,i 0,i 3,r 1106,.bool true,i 181,r 1107,.none,r 1108,r 1109,r 1110,i 2092,i 917,s Jb 2093]
def Jxe:PO:=fun P=>jb 190 0 JiC JiC (s z535 1922) 1111
def JDd:PO:=fun P=>jf z578 z578 Jb 2095 [i 923,i 8,i 0,i 0,i 3,r 1113,.bool true,i 181,r 1114,.none,r 1115,r 1116,r 1117,i 2111,i 923,s Jb 2112]
def Jz6:PO:=fun P=>jb 191 0 z578 z578 (s z535 1922) 1118
def Jyg:PO:=fun P=>je [s JaR 2117,s Jl5 2118,s Jjt 2119,s Jh5 2120,s Jop 2121,s JaN 2122,s Jd7 2123,s JlV 2124]
def JC0:PO:=fun P=>ja 192 0 z579 z579
def Jty:PO:=fun P=>jf z579 z579 Jb 2114 [i 940,i 7,i 0,i 0,i 3,r 1120,.bool true,i 181,r 1121,.none,r 1122,r 1123,r 1124,i 2125,i 940,s Jb 2126]
def Jtf:PO:=fun P=>jb 192 0 z579 z579 (s z535 1922) 1125
def JAw:PO:=fun P=>jf z180 z588 Jb 2142 [i 961,i 2,i 0,i 0,i 3,r 1134,.bool true,i 181,r 1135,.none,r 1136,r 1137,r 1138,i 2147,i 961,s Jb 2148]
def Jws:PO:=fun P=>jb 194 1 z180 z588 (s z577 2128) 1139
def JC6:PO:=fun P=>jf z374 z589 Jb 2150 [i 972,i 2,i 0,i 0,i 3,r 1141,.bool true,i 181,r 1142,.none,r 1143,r 1144,r 1145,i 2155,i 972,s Jb 2156]
def JFZ:PO:=fun P=>jb 194 2 z374 z589 (s z577 2128) 1146
def JF2:PO:=fun P=>jf z248 z591 Jb 2166 [i 978,i 2,i 0,i 0,i 3,r 1155,.bool true,i 181,r 1156,.none,r 1157,r 1158,r 1159,i 2171,i 978,s Jb 2172]
def JCy:PO:=fun P=>jb 194 4 z248 z591 (s z577 2128) 1160
def Jsu:PO:=fun P=>n (t q54) (.dict #[e P Jai 2137 (s z577 2128),e P Jag 2141 (.int 959 2140),e P z180 2149 (r 1140),e P z374 2157 (r 1147),e P Jnp 2165 (r 1154),e P z248 2173 (r 1161),e P Jnr 2181 (r 1168),e P JgG 2189 (r 1175),e P Jnj 2197 (r 1182),e P Jah 2207 (r 1183),e P Jbp 2209 (r 1186),e P Ja8 2211 (r 1187),e P z2 2212 .none] 4)
def Jvf:PO:=fun P=>⟨(t q72),none,(.cls ⟨JfZ,[t q63],[r 1185,t q63],1184,JfZ,true,[],[],false,none,false⟩),#[none,none,some (s JfZ 2130),some (s JfZ 2138),some (b JcY),some (.bool true)]⟩
def Jzm:PO:=fun P=>n (t Jbd) (.fields #[s Jbp 2208,r 1185,b JeI,b JeE])
def JEq:PO:=fun P=>n (t Jbd) (.fields #[s Ja8 2210,r 1185,b Jef,.none])
def Jxp:PO:=fun P=>n (t q70) (.fields #[r 1185,r 1185,r 1185])
def JB6:PO:=fun P=>n (t Jb3) (.fields #[b Jb9,r 1185])
def JAC:PO:=fun P=>je [.int 6 2217,.int 5 2218,.int 3 2219,.int 4 2220,.int 3 2221,.int 3 2222,.int 8 2223,.int 4 2224,.int 8 2225,.int 2 2226]
def JFc:PO:=fun P=>je [.int 3 2228,.int 1 2229,.int 2 2230,.int 0 2231,.int 0 2232,.int 0 2233,.int 0 2234,.int 0 2235,.int 3 2236,.int 0 2237]
def Jwr:PO:=fun P=>je [.int 4 2238,.int 0 2239,.int 2 2240,.int 0 2241,.int 0 2242,.int 0 2243,.int 1 2244,.int 0 2245,.int 0 2246,.int 0 2247]
def JAT:PO:=fun P=>je [.int 5 2248,.int 0 2249,.int 2 2250,.int 0 2251,.int 0 2252,.int 0 2253,.int 1 2254,.int 0 2255,.int 0 2256,.int 0 2257]
def JAm:PO:=fun P=>je [.int 0 2258,.int 0 2259,.int 2 2260,.int 0 2261,.int 0 2262,.int 0 2263,.int 1 2264,.int 0 2265,.int 0 2266,.int 0 2267]
def JCA:PO:=fun P=>je [.int 1 2268,.int 1 2269,.int 2 2270,.int 0 2271,.int 0 2272,.int 2 2273,.int 1 2274,.int 0 2275,.int 3 2276,.int 0 2277]
def Jwu:PO:=fun P=>je [.int 2 2278,.int 2 2279,.int 2 2280,.int 0 2281,.int 0 2282,.int 1 2283,.int 1 2284,.int 0 2285,.int 0 2286,.int 0 2287]
def JCV:PO:=fun P=>je [.int 2 2288,.int 1 2289,.int 0 2290,.int 0 2291,.int 0 2292,.int 2 2293,.int 0 2294,.int 0 2295,.int 0 2296,.int 0 2297]
def Jx4:PO:=fun P=>je [.int 2 2298,.int 1 2299,.int 0 2300,.int 1 2301,.int 1 2302,.int 0 2303,.int 1 2304,.int 0 2305,.int 3 2306,.int 0 2307]
def JFW:PO:=fun P=>je [.int 2 2308,.int 0 2309,.int 0 2310,.int 1 2311,.int 1 2312,.int 0 2313,.int 3 2314,.int 0 2315,.int 0 2316,.int 0 2317]
def JAX:PO:=fun P=>je [.int 2 2318,.int 2 2319,.int 0 2320,.int 0 2321,.int 2 2322,.int 0 2323,.int 1 2324,.int 0 2325,.int 0 2326,.int 0 2327]
def JBA:PO:=fun P=>je [.int 2 2328,.int 1 2329,.int 0 2330,.int 2 2331,.int 0 2332,.int 1 2333,.int 3 2334,.int 0 2335,.int 6 2336,.int 0 2337]
def JFP:PO:=fun P=>je [.int 2 2338,.int 0 2339,.int 0 2340,.int 3 2341,.int 0 2342,.int 0 2343,.int 6 2344,.int 3 2345,.int 0 2346,.int 0 2347]
def JAy:PO:=fun P=>je [.int 2 2348,.int 3 2349,.int 0 2350,.int 0 2351,.int 1 2352,.int 0 2353,.int 1 2354,.int 0 2355,.int 0 2356,.int 0 2357]
def JEE:PO:=fun P=>je [.int 0 2358,.int 0 2359,.int 0 2360,.int 0 2361,.int 1 2362,.int 0 2363,.int 1 2364,.int 0 2365,.int 0 2366,.int 1 2367]
def JCs:PO:=fun P=>je [.int 0 2368,.int 0 2369,.int 0 2370,.int 3 2371,.int 0 2372,.int 1 2373,.int 5 2374,.int 0 2375,.int 0 2376,.int 1 2377]
def JBM:PO:=fun P=>je [.int 0 2378,.int 2 2379,.int 0 2380,.int 2 2381,.int 2 2382,.int 0 2383,.int 1 2384,.int 0 2385,.int 7 2386,.int 1 2387]
def JFo:PO:=fun P=>je [.int 0 2388,.int 4 2389,.int 0 2390,.int 1 2391,.int 1 2392,.int 0 2393,.int 2 2394,.int 2 2395,.int 0 2396,.int 0 2397]
def JCr:PO:=fun P=>je [.int 1 2398,.int 0 2399,.int 0 2400,.int 3 2401,.int 0 2402,.int 0 2403,.int 1 2404,.int 1 2405,.int 0 2406,.int 0 2407]
def Jzc:PO:=fun P=>je [.int 1 2408,.int 4 2409,.int 0 2410,.int 0 2411,.int 1 2412,.int 0 2413,.int 7 2414,.int 0 2415,.int 0 2416,.int 1 2417]
def JEg:PO:=fun P=>je [.int 1 2418,.int 1 2419,.int 0 2420,.int 0 2421,.int 2 2422,.int 0 2423,.int 0 2424,.int 0 2425,.int 4 2426,.int 0 2427]
def JAj:PO:=fun P=>je [.int 3 2428,.int 3 2429,.int 1 2430,.int 0 2431,.int 2 2432,.int 0 2433,.int 2 2434,.int 3 2435,.int 0 2436,.int 0 2437]
def JBt:PO:=fun P=>je [.int 4 2438,.int 1 2439,.int 0 2440,.int 0 2441,.int 0 2442,.int 0 2443,.int 0 2444,.int 0 2445,.int 3 2446,.int 0 2447]
def JAp:PO:=fun P=>je [.int 1 2448,.int 0 2449,.int 0 2450,.int 3 2451,.int 0 2452,.int 0 2453,.int 1 2454,.int 1 2455,.int 0 2456,.int 1 2457]
def JxL:PO:=fun P=>je [r 1191,r 1192,r 1193,r 1194,r 1195,r 1196,r 1197,r 1198,r 1199,r 1200,r 1201,r 1202,r 1203,r 1204,r 1205,r 1206,r 1207,r 1208,r 1209,r 1210,r 1211,r 1212,r 1213]
def JyE:PO:=fun P=>je [s JAR 2462,s Jkp 2463,s JHC 2464]
def JCQ:PO:=fun P=>ja 198 0 z605 z605
def Jt2:PO:=fun P=>jf z605 z605 Jb 2459 [i 992,i 1,i 0,i 0,i 3,r 1215,.bool true,i 181,r 1216,.none,r 1217,r 1218,r 1219,i 2465,i 992,s Jb 2466]
def JvL:PO:=fun P=>jb 198 0 z605 z605 (s z602 2215) 1220
def JFk:PO:=fun P=>je [s Ja7 2471,s Jbf 2472,s JNo 2473,s z374 2474,s JKV 2475,s JI3 2476,s JHS 2477,s Jmx 2478,s JLn 2479,s JvD 2480,s JH6 2481,s Jf5 2482,s JIG 2483]
def JzS:PO:=fun P=>ja 199 0 z606 z606
def Jvl:PO:=fun P=>jf z606 z606 Jb 2468 [i 998,i 0,i 0,i 0,i 3,r 1222,.bool true,i 181,r 1223,.none,r 1224,r 1225,r 1226,i 2484,i 998,s Jb 2485]
def JvH:PO:=fun P=>jb 199 0 z606 z606 (s z602 2215) 1227
def JxF:PO:=fun P=>jf z615 z615 Jb 2487 [i 1017,i 4,i 0,i 0,i 3,r 1229,.bool true,i 181,r 1230,.none,r 1231,r 1232,r 1233,i 2495,i 1017,s Jb 2496]
def JwA:PO:=fun P=>jb 200 0 z615 z615 (s z602 2215) 1234
def Jyu:PO:=fun P=>jf z616 z616 Jb 2498 [i 1023,i 5,i 0,i 0,i 3,r 1236,.bool true,i 181,r 1237,.none,r 1238,r 1239,r 1240,i 2516,i 1023,s Jb 2517]
def JCY:PO:=fun P=>jb 201 0 z616 z616 (s z602 2215) 1241
def JEe:PO:=fun P=>jf z617 z617 Jb 2519 [i 1043,i 4,i 0,i 0,i 3,r 1243,.bool true,i 181,r 1244,.none,.none,.none,r 1245,i 2522,i 1043,s Jb 2523]
def Jy9:PO:=fun P=>jb 202 0 z617 z617 (s z602 2215) 1246
def JDy:PO:=fun P=>jf z618 z618 Jb 2525 [i 1056,i 4,i 0,i 0,i 3,r 1248,.bool true,i 181,r 1249,.none,r 1250,r 1251,r 1252,i 2536,i 1056,s Jb 2537]
def Jy6:PO:=fun P=>jb 203 0 z618 z618 (s z602 2215) 1253
def JCB:PO:=fun P=>jf z619 z619 Jb 2539 [i 1062,i 5,i 0,i 0,i 3,r 1255,.bool true,i 181,r 1256,.none,r 1257,r 1258,r 1259,i 2548,i 1062,s Jb 2549]
def Jxl:PO:=fun P=>jb 204 0 z619 z619 (s z602 2215) 1260
def JDS:PO:=fun P=>jf z620 z620 Jb 2551 [i 1073,i 4,i 0,i 0,i 3,r 1262,.bool true,i 181,r 1263,.none,r 1264,r 1265,r 1266,i 2559,i 1073,s Jb 2560]
def Jye:PO:=fun P=>jb 205 0 z620 z620 (s z602 2215) 1267
def JFw:PO:=fun P=>jf z621 z621 Jb 2562 [i 1082,i 3,i 0,i 0,i 3,r 1269,.bool true,i 181,r 1270,.none,r 1271,r 1272,r 1273,i 2569,i 1082,s Jb 2570]
def JFh:PO:=fun P=>jb 206 0 z621 z621 (s z602 2215) 1274
def Jzy:PO:=fun P=>ja 207 0 z622 z622
def JuS:PO:=fun P=>jf z622 z622 Jb 2572 [i 1089,i 2,i 0,i 0,i 3,r 1276,.bool true,i 181,r 1277,.none,r 1278,r 1279,r 1280,i 2577,i 1089,s Jb 2578]
def Jvm:PO:=fun P=>jb 207 0 z622 z622 (s z602 2215) 1281
def JCI:PO:=fun P=>je [s JgK 2583,s JpH 2584,s JMb 2585,s JlV 2586,s JD1 2587,s JiR 2588]
def JCP:PO:=fun P=>ja 208 0 z623 z623
def JsI:PO:=fun P=>jf z623 z623 Jb 2580 [i 1091,i 3,i 0,i 0,i 3,r 1283,.bool true,i 181,r 1284,.none,r 1285,r 1286,r 1287,i 2589,i 1091,s Jb 2590]
def Jsk:PO:=fun P=>jb 208 0 z623 z623 (s z602 2215) 1288
def JAY:PO:=fun P=>je [s JgK 2595,s Jfb 2596,s JI 2597,s Jpw 2598]
def JDa:PO:=fun P=>ja 209 0 z624 z624
def JtO:PO:=fun P=>jf z624 z624 Jb 2592 [i 1102,i 4,i 0,i 0,i 3,r 1290,.bool true,i 181,r 1291,.none,r 1292,r 1293,r 1294,i 2599,i 1102,s Jb 2600]
def JtW:PO:=fun P=>jb 209 0 z624 z624 (s z602 2215) 1295
def Jxt:PO:=fun P=>je [s JgK 2605,s Jjt 2606,s Jpw 2607,s Jfb 2608,s JmI 2609]
def JxA:PO:=fun P=>ja 210 0 z625 z625
def JvG:PO:=fun P=>jf z625 z625 Jb 2602 [i 1106,i 3,i 0,i 0,i 3,r 1297,.bool true,i 181,r 1298,.none,r 1299,r 1300,r 1301,i 2610,i 1106,s Jb 2611]
def JsC:PO:=fun P=>jb 210 0 z625 z625 (s z602 2215) 1302
def o878:PO:=fun P=>n (t q54) (.dict (k78 P++k21 P++k25 P++k26 P++k28 P++k29 P++k32 P++k34 P++k37 P++k38 P++k39 P++k41 P++k44 P++k45 P++k47 P++k50 P++k52 P++k54 P++k59 P++k69 P++k70 P++k71 P++k73 P++k76 P++k80 P++k81 P++k82 P).toArray 211)
def JxY:PO:=fun P=>jf z638 z638 Jb 2613 [i 1115,i 8,i 0,i 0,i 3,r 1304,.bool true,i 181,r 1305,.none,r 1306,r 1307,r 1308,i 2628,i 1115,s Jb 2629]
def JEL:PO:=fun P=>jb 211 0 z638 z638 (s z602 2215) 1309
def JDY:PO:=fun P=>jf z639 z639 Jb 2631 [i 1150,i 4,i 0,i 0,i 3,r 1311,.bool true,i 181,r 1312,.none,r 1313,r 1314,r 1315,i 2651,i 1150,s Jb 2652]
def JAZ:PO:=fun P=>jb 212 0 z639 z639 (s z602 2215) 1316
def JF0:PO:=fun P=>jf z640 z640 Jb 2654 [i 1173,i 1,i 0,i 0,i 3,r 1318,.bool true,i 181,r 1319,.none,.none,.none,r 1320,i 2657,i 1173,s Jb 2658]
def JDA:PO:=fun P=>jb 213 0 z640 z640 (s z602 2215) 1321
def c0:List (Params→Obj):=[o0,o1,o2,o3,o4,o5,o6,o7,o8,o9,o10,o7,o8,o11,o12]
def c1:List (Params→Obj):=[o0,o1,o13,fun P=>n (t q54) (.dict #[e P z0 165 (s Jcx 194),e P z2 166 .none,e P z3 167 .none,e P z4 168 (b Jet),e P z5 169 .none,e P JeQ 170 (r 6),e P Jez 171 (r 4),e P JeO 173 (s Jb 172),e P JpK 174 .none,e P JgS 193 (r 21),e P JpP 197 (.int 1 196),e P JpR 199 (.int 2 198),e P JqQ 201 (.int 7 200),e P JrH 203 (.int 8 202),e P Jbg 234 (r 38)] 15),o4,o5,o6,o7,o8,o9,o10,o7,fun P=>jc [i 1,i 0,r 20,i 9,i 0,r 27],o11,o12,o7,o8,o16,o7,o17,o18,o19,o20,o21,o22,o7,o23,o24,o25,o7,o8,o26]
def c2:List (Params→Obj):=[o7,o27,o28,o29,o30,o31,fun P=>⟨(t q72),none,(.cls ⟨Jbg,[t q76],[r 38,t q76,t q74,t q63],37,Jbg,true,[],[],false,none,false⟩),#[some (r 22),none,some (s Jbg 204),some (s Jbg 212),some (b Jif),some (.bool true)]⟩,o33,o34,o35]
def c3:List (Params→Obj):=[o0,o1,o13,fun P=>n (t q54) (.dict #[e P z0 165 (s Jcx 194),e P z2 166 .none,e P z3 167 .none,e P z4 168 (b Jet),e P z5 169 .none,e P JeQ 170 (r 6),e P Jez 171 (r 4),e P JeO 173 (s Jb 172),e P JpK 174 .none,e P JgS 193 (r 21),e P JpP 197 (.int 1 196),e P JpR 199 (.int 2 198),e P JqQ 201 (.int 7 200),e P JrH 203 (.int 8 202),e P Jbg 234 (r 38),e P JgI 250 (r 51)] 16),o4,o5,o6,o7,o8,o9,o10,o7,fun P=>jc [i 1,i 0,r 20,i 9,i 0,r 27,i 14,i 0,r 47],o11,o12,o7,o8,o16,o7,o17,o18,o19,o20,o21,o22,o7,o23,o24,o25,o7,o8,o26]
def c4:List (Params→Obj):=[o7,o27,o28,o29,o30,o31,fun P=>⟨(t q72),none,(.cls ⟨Jbg,[t q76],[r 38,t q76,t q74,t q63],37,Jbg,true,[],[r 51],false,none,false⟩),#[some (r 22),none,some (s Jbg 204),some (s Jbg 212),some (b Jif),some (.bool true)]⟩,o33,o34,o35,o39,o21,o40,o7,o8,o41,o42,o7,o43,o44,o45,o46]
def c5:List (Params→Obj):=[o0,o1,o13,fun P=>n (t q54) (.dict (k20 P++k21 P++k22 P).toArray 17),o4,o5,o6,o7,o8,o9,o10,o7,fun P=>jc [i 1,i 0,r 20,i 9,i 0,r 27,i 14,i 0,r 47,i 16,i 0,r 59],o11,o12,o7,o8,o16,o7,o17,o18,o19,o20,o21,o22,o7,o23,o24,o25,o7,o8,o26]
def c6:List (Params→Obj):=[o7,o27,o28,o29,o30,o31,fun P=>⟨(t q72),none,(.cls ⟨Jbg,[t q76],[r 38,t q76,t q74,t q63],37,Jbg,true,[],[r 51,r 63],false,none,false⟩),#[some (r 22),none,some (s Jbg 204),some (s Jbg 212),some (b Jif),some (.bool true)]⟩,o33,o34,o35,o39,o21,o40,o7,o8,o41,o42,o7,o43,o44,o45,o46,o39,o21,o50,o7,o8,o51,o52,o7,o53,o54]
def c7:List (Params→Obj):=[o55,o56]
def c8:List (Params→Obj):=[o0,o1,o13,fun P=>n (t q54) (.dict (k20 P++k21 P++k23 P).toArray 18),o4,o5,o6,o7,o8,o9,o10,o7,fun P=>jc [i 1,i 0,r 20,i 9,i 0,r 27,i 14,i 0,r 47,i 16,i 0,r 59,i 18,i 0,r 71],o11,o12,o7,o8,o16,o7,o17,o18,o19,o20,o21,o22,o7,o23,o24,o25,o7,o8,o26]
def c9:List (Params→Obj):=[o7,o27,o28,o29,o30,o31,fun P=>⟨(t q72),none,(.cls ⟨Jbg,[t q76],[r 38,t q76,t q74,t q63],37,Jbg,true,[],[r 51,r 63,r 75],false,none,false⟩),#[some (r 22),none,some (s Jbg 204),some (s Jbg 212),some (b Jif),some (.bool true)]⟩,o33,o34,o35,o39,o21,o40,o7,o8,o41,o42,o7,o43,o44,o45,o46,o39,o21,o50,o7,o8,o51,o52,o7,o53,o54]
def c10:List (Params→Obj):=[o55,o56,o39,o21,o60,o7,o8,o61,o62,o7,o63,o64,o65,o66]
def c11:List (Params→Obj):=[o0,o1,o13,fun P=>n (t q54) (.dict (k24 P++k21 P++k25 P++k26 P++k27 P).toArray 38),o4,o5,o6,o7,o8,o9,o10,o7,o68,o11,o12,o7,o8,o16,o7,o17,o18,o19,o20,o21,o22,o7,o23,o24,o25,o7,o8,o26]
def c12:List (Params→Obj):=[o7,o27,o28,o29,o30,o31,fun P=>⟨(t q72),none,(.cls ⟨Jbg,[t q76],[r 38,t q76,t q74,t q63],37,Jbg,true,[],[r 51,r 63,r 75,r 87],false,none,false⟩),#[some (r 22),none,some (s Jbg 204),some (s Jbg 212),some (b Jif),some (.bool true)]⟩,o33,o34,o35,o39,o21,o40,o7,o8,o41,o42,o7,o43,o44,o45,o46,o39,o21,o50,o7,o8,o51,o52,o7,o53,o54]
def c13:List (Params→Obj):=[o55,o56,o39,o21,o60,o7,o8,o61,o62,o7,o63,o64,o65,o66,o39,o21,o70,o7,o8,o71,o72,o7,o73,o74,o75,o76]
def c14:List (Params→Obj):=[o0,o1,o13,fun P=>n (t q54) (.dict (k24 P++k21 P++k25 P++k26 P++k28 P++k29 P++k30 P).toArray 50),o4,o5,o6,o7,o8,o9,o10,o7,o68,o11,o12,o7,o8,o16,o7,o17,o18,o19,o20,o21,o22,o7,o23,o24,o25,o7,o8,o26]
def c15:List (Params→Obj):=[o55,o56,o39,o21,o60,o7,o8,o61,o62,o7,o63,o64,o65,o66,o39,o21,o70,o7,o8,o71,o72,o7,o73,o74,o75,o76,o78]
def c16:List (Params→Obj):=[o0,o1,o13,fun P=>n (t q54) (.dict (k24 P++k21 P++k25 P++k26 P++k28 P++k29 P++k31 P).toArray 53),o4,o5,o6,o7,o8,o9,o10,o7,o68,o11,o12,o7,o8,o16,o7,o17,o18,o19,o20,o21,o22,o7,o23,o24,o25,o7,o8,o26]
def c17:List (Params→Obj):=[o55,o56,o39,o21,o60,o7,o8,o61,o62,o7,o63,o64,o65,o66,o39,o21,o70,o7,o8,o71,o72,o7,o73,o74,o75,o76,o78,o80]
def c18:List (Params→Obj):=[o0,o1,o13,fun P=>n (t q54) (.dict (k24 P++k21 P++k25 P++k26 P++k28 P++k29 P++k32 P++k33 P).toArray 57),o4,o5,o6,o7,o8,o9,o10,o7,fun P=>n .none (.fields (y0++y1++y2).toArray),o11,o12,o7,o8,o16,o7,o17,o18,o19,o20,o21,o22,o7,o23,o24,o25,o7,o8,o26]
def c19:List (Params→Obj):=[o55,o56,o39,o21,o60,o7,o8,o61,o62,o7,o63,o64,o65,o66,o39,o21,o70,o7,o8,o71,o72,o7,o73,o74,o75,o76,o78,o80,o7,o21,fun P=>n (t q54) (.dict #[e P Jai 430 (s z190 299),e P Jb8 432 (s JiS 431),e P Jag 434 (.int 57 433),e P z180 443 (r 105),e P z230 451 (r 112),e P z231 466 (r 119),e P Jah 472 (r 120)] 7),o7]
def c20:List (Params→Obj):=[fun P=>jc [i 59,i 4,r 104,i 73,i 4,r 111,i 78,i 4,r 118],fun P=>jf JiS JiS Jb 425 [i 57,i 0,i 0,i 0,i 0,r 95,.bool false,i 181,r 96,.none,.none,.none,.none,i 428,i 57,s Jb 429],fun P=>⟨(t JbR),none,.plain,#[some (r 97),some (r 3),some (r 94),none,some (s z190 299),none,some (r 0)]⟩,o7,o8,fun P=>je [s JR 438,s JiR 439,s z230 440],o7,fun P=>ja 46 1 z180 z233,o89,o90,o7,o8,fun P=>je [s JR 447,s JI 448],o7,fun P=>ja 46 2 z230 z234,o93,o94,o7,o8,fun P=>je [s JR 455,s z230 456,s Jl5 457,s JLx 458,s JH9 459,s JKf 460,s JHK 461,s JfP 462,s JI 463],o7,fun P=>ja 46 3 z231 z241,o97,o98,fun P=>je [s JI8 467,s JMg 468,s JLX 469,s Jl4 470,s JLK 471],JBN,JF8,fun P=>n (t Jbd) (.fields #[s Jbp 473,r 122,b JeI,b JeE]),fun P=>n (t Jbd) (.fields #[s Ja8 475,r 122,b Jef,.none]),fun P=>n (t q70) (.fields #[r 122,r 122,r 122]),fun P=>n (t Jb3) (.fields #[b Jb9,r 122]),o7]
def c21:List (Params→Obj):=[o8,JFt,o7,JEO,Jvr,JtC,o7,o8,JCR,o7,Jyo,Jsw,Js3,o7,o8,Jxi,o7,JEk,JsB,JsR]
def c22:List (Params→Obj):=[o0,o1,o13,fun P=>n (t q54) (.dict (k24 P++k21 P++k25 P++k26 P++k28 P++k29 P++k32 P++k34 P++k35 P).toArray 70),o4,o5,o6,o7,o8,o9,o10,o7,fun P=>n .none (.fields (y0++y1++y3++y4++y5++y6).toArray),o11,o12,o7,o8,o16,o7,o17,o18,o19,o20,o21,o22,o7,o23,o24,o25,o7,o8,o26]
def c23:List (Params→Obj):=[o8,JFt,o7,JEO,Jvr,JtC,o7,o8,JCR,o7,Jyo,Jsw,Js3,o7,o8,Jxi,o7,JEk,JsB,JsR,o7,o8,fun P=>je [s Jbf 505,s z230 506,s z248 507,s JfP 508],o7,fun P=>ja 50 0 z249 z249,JxQ,JA5,o7,o8,fun P=>je [s Jbf 515,s z230 516],o7,fun P=>ja 51 0 z250 z250]
def c24:List (Params→Obj):=[JBq,JF5,o7,o8,fun P=>je [s Jbf 523,s Jju 524,s JMy 525],o7,fun P=>ja 52 0 z251 z251,JwK,Jzx,o7,o8,fun P=>je [s Jbf 532,s JI 533,s z248 534],o7,fun P=>ja 53 0 z252 z252,JBJ,JD3,o7,o8,fun P=>je [s Jbf 541,s JhC 542,s Jju 543],o7,fun P=>ja 54 0 z253 z253,JDp,JE3,o7,o8,fun P=>je [s Jbf 550,s JhC 551,s Jju 552],o7,fun P=>ja 55 0 z254 z254,JFU,JwM,o7,o8]
def c25:List (Params→Obj):=[fun P=>je [s JhC 559,s Jju 560],o7,fun P=>ja 56 0 JjQ JjQ,fun P=>jf JjQ JjQ Jb 556 [i 168,i 2,i 0,i 0,i 3,r 190,.bool true,i 181,r 191,.none,r 192,r 193,r 194,i 561,i 168,s Jb 562],fun P=>jb 56 0 JjQ JjQ (s z190 299) 195,o7,o8,fun P=>je [s Jbf 567,s JBb 568],o7,fun P=>ja 57 0 z256 z256,JD7,JDG,o7,o8,fun P=>je [s Jbf 575,s JI 576],o7,fun P=>ja 58 0 z257 z257,JDR,JCz,o7,o8,fun P=>je [s Jbf 583,s JI 584,s z230 585],o7,fun P=>ja 59 0 Jil Jil,fun P=>jf Jil Jil Jb 580 [i 176,i 2,i 0,i 0,i 3,r 211,.bool true,i 181,r 212,.none,r 213,r 214,r 215,i 586,i 176,s Jb 587],fun P=>jb 59 0 Jil Jil (s z190 299) 216,o7,o8,fun P=>je [s Jbf 592,s JI 593,s z230 594],o7,fun P=>ja 60 0 z259 z259,JDV]
def c26:List (Params→Obj):=[Jvt,o7,o8,JBy,o7,JCH,Jvz,JsH,o7,o8,Jyy,o7,JFf,JvJ,Juk]
def c27:List (Params→Obj):=[o0,o1,o13,fun P=>n (t q54) (.dict (k36 P++k21 P++k25 P++k26 P++k28 P++k29 P++k32 P++k34 P++k37 P++k38 P++k39 P++k40 P).toArray 92),o4,o5,o6,o7,o8,o9,o10,o7,fun P=>n .none (.fields (y0++y1++y3++y4++y5++y7++y8++y9).toArray),o11,o12,o7,o8,o16,o7,o17,o18,o19,o20,o21,o22,o7,o23,o24,o25,o7,o8,o26]
def c28:List (Params→Obj):=[Jvt,o7,o8,JBy,o7,JCH,Jvz,JsH,o7,o8,Jyy,o7,JFf,JvJ,Juk,o7,o8,fun P=>je [s Jbf 618,s JI 619,s z248 620],o7,fun P=>ja 63 0 z268 z268,JwG,JDX,o7,o8,fun P=>je [s Jbf 627,s JI 628,s z248 629],o7,fun P=>ja 64 0 z269 z269,JFN,JCZ,o7,o8,fun P=>je [s Jbf 636,s JI 637,s Jop 638,s Jt8 639]]
def c29:List (Params→Obj):=[o7,fun P=>ja 65 0 z270 z270,JxS,JCT,o7,o8,fun P=>je [s Jbf 646,s JI 647,s Jop 648,s Jt8 649,s JlT 650,s z230 651,s JfP 652,s JKZ 653],o7,fun P=>ja 66 0 z271 z271,JBo,JBl,o7,o8,fun P=>je [s Jbf 660,s z230 661,s JfP 662,s z248 663],o7,fun P=>ja 67 0 z272 z272,JAL,JDl,o7,o8,fun P=>je [s Jbf 670,s JI 671],o7,fun P=>ja 68 0 Ji9 Ji9,fun P=>jf Ji9 Ji9 Jb 667 [i 236,i 2,i 0,i 0,i 3,r 274,.bool true,i 181,r 275,.none,r 276,r 277,r 278,i 672,i 236,s Jb 673],fun P=>jb 68 0 Ji9 Ji9 (s z190 299) 279,o7,o8,fun P=>je [s Jju 678,s Jmw 679,s JI 680],o7,fun P=>ja 69 0 z274 z274,JEs,JA7]
def c30:List (Params→Obj):=[o7,o8,Jtb,o7,Jvg,Jsz,Jta]
def c31:List (Params→Obj):=[o0,o1,o13,fun P=>n (t q54) (.dict (k36 P++k21 P++k25 P++k26 P++k28 P++k29 P++k32 P++k34 P++k37 P++k38 P++k39 P++k41 P).toArray 96),o4,o5,o6,o7,o8,o9,o10,o7,fun P=>n .none (.fields (y0++y1++y3++y4++y5++y7++y8++y10).toArray),o11,o12,o7,o8,o16,o7,o17,o18,o19,o20,o21,o22,o7,o23,o24,o25,o7,o8,o26]
def c32:List (Params→Obj):=[o7,o8,Jtb,o7,Jvg,Jsz,Jta,o7,o21,JxB,o7,JwW,Jww,JCD,o7,o8,JAI,o7,JFB,JtP,JtX,JEv,Ju3,JtS,JCk,JAg,JDh,JzN]
def c33:List (Params→Obj):=[o0,o1,o13,fun P=>n (t q54) (.dict (k36 P++k21 P++k25 P++k26 P++k28 P++k29 P++k32 P++k34 P++k37 P++k38 P++k39 P++k41 P++k42 P).toArray 102),o4,o5,o6,o7,o8,o9,o10,o7,fun P=>n .none (.fields (y0++y1++y3++y4++y5++y7++y8++y10++y11++y12).toArray),o11,o12,o7,o8,o16,o7,o17,o18,o19,o20,o21,o22,o7,o23,o24,o25,o7,o8,o26]
def c34:List (Params→Obj):=[o7,o8,Jtb,o7,Jvg,Jsz,Jta,o7,o21,JxB,o7,JwW,Jww,JCD,o7,o8,JAI,o7,JFB,JtP,JtX,JEv,Ju3,JtS,JCk,JAg,JDh,JzN,o7,o21,fun P=>n (t q54) (.dict #[e P Jai 779 (s z267 696),e P Jb8 781 (s JgJ 780),e P Jag 783 (.int 281 782),e P z180 790 (r 329),e P Jah 798 (r 330)] 5),o7]
def c35:List (Params→Obj):=[fun P=>jc [i 283,i 4,r 328],fun P=>jf JgJ JgJ Jb 774 [i 281,i 0,i 0,i 0,i 0,r 319,.bool false,i 181,r 320,.none,.none,.none,.none,i 777,i 281,s Jb 778],fun P=>⟨(t JbR),none,.plain,#[some (r 321),some (r 3),some (r 318),none,some (s z267 696),none,some (r 0)]⟩,o7,o8,fun P=>je [s JR 787],o7,fun P=>ja 90 1 z180 z315,JzL,Jz7,fun P=>je [s JMN 791,s JG8 792,s JMX 793,s Jbf 794,s JNd 795,s JIi 796,s Jyx 797],JDw,JAG,fun P=>n (t Jbd) (.fields #[s Jbp 799,r 332,b JeI,b JeE]),fun P=>n (t Jbd) (.fields #[s Ja8 801,r 332,b Jef,.none]),fun P=>n (t q70) (.fields #[r 332,r 332,r 332]),fun P=>n (t Jb3) (.fields #[b Jb9,r 332]),o7,o8,fun P=>je [s Ja7 809,s JhC 810,s JnW 811,s Jju 812,s Jmw 813],o7,fun P=>ja 91 0 z310 z310,Jyr,JDu,o7,o8,fun P=>je [s Ja7 820,s JhC 821,s Jju 822,s z248 823],o7,fun P=>ja 92 0 JhS JhS,fun P=>jf JhS JhS Jb 817 [i 299,i 3,i 0,i 0,i 3,r 344,.bool true,i 181,r 345,.none,r 346,r 347,r 348,i 824,i 299,s Jb 825],fun P=>jb 92 0 JhS JhS (s z267 696) 349,o7]
def c36:List (Params→Obj):=[o8,JCe,o7,JDc,JC7,JCj,o7,o8,JD2,o7,JxT,Jzt,JDN,o7,o8,JBC,o7,JBh,JwE,JDZ]
def c37:List (Params→Obj):=[o0,o1,o13,fun P=>n (t q54) (.dict (k43 P++k21 P++k25 P++k26 P++k28 P++k29 P++k32 P++k34 P++k37 P++k38 P++k39 P++k41 P++k44 P++k45 P++k46 P).toArray 117),o4,o5,o6,o7,o8,o9,o10,o7,fun P=>n .none (.fields (y0++y1++y3++y4++y5++y7++y8++y10++y11++y13++y14++y15).toArray),o11,o12,o7,o8,o16,o7,o17,o18,o19,o20,o21,o22,o7,o23,o24,o25,o7,o8,o26]
def c38:List (Params→Obj):=[o8,JCe,o7,JDc,JC7,JCj,o7,o8,JD2,o7,JxT,Jzt,JDN,o7,o8,JBC,o7,JBh,JwE,JDZ,o7,o8,fun P=>je [s Ja7 861,s JI 862],o7,fun P=>ja 96 0 Jjx Jjx,fun P=>jf Jjx Jjx Jb 858 [i 334,i 2,i 0,i 0,i 3,r 372,.bool true,i 181,r 373,.none,r 374,r 375,r 376,i 863,i 334,s Jb 864],fun P=>jb 96 0 Jjx Jjx (s z267 696) 377,o7,o8,fun P=>je [s Ja7 869,s Jzv 870,s JF6 871],o7,fun P=>ja 97 0 z327 z327]
def c39:List (Params→Obj):=[JFH,JEx,o7,o8,fun P=>je [s Ja7 878,s Jvj 879,s Jky 880,s Jop 881],o7,fun P=>ja 98 0 JjC JjC,fun P=>jf JjC JjC Jb 875 [i 345,i 2,i 0,i 0,i 3,r 386,.bool true,i 181,r 387,.none,r 388,r 389,r 390,i 882,i 345,s Jb 883],fun P=>jb 98 0 JjC JjC (s z267 696) 391,JCJ,o7,o8,fun P=>je [s Jf5 903,s JI 904,s Jkp 905,s JlT 906,s JMO 907,s JvY 908,s JfP 909],o7,fun P=>ja 107 0 z336 z336,JBV,JwY,o7,o8,fun P=>je [s Jf5 916,s JI 917,s JvY 918],o7,fun P=>ja 108 0 z337 z337,JyY,JxV,o7,o8,fun P=>je [s Jf5 925,s JI 926],o7,fun P=>ja 109 0 z338 z338,JwD,JA2,o7]
def c40:List (Params→Obj):=[o8,Jxv,o7,JzR,Jxw,JxE,o7,o8,JBG,o7,JyZ,JAa,JwP]
def c41:List (Params→Obj):=[o0,o1,o13,fun P=>n (t q54) (.dict (k43 P++k21 P++k25 P++k26 P++k28 P++k29 P++k32 P++k34 P++k37 P++k38 P++k39 P++k41 P++k44 P++k45 P++k47 P++k48 P).toArray 122),o4,o5,o6,o7,o8,o9,o10,o7,fun P=>n .none (.fields (y0++y1++y3++y4++y5++y7++y8++y10++y11++y13++y14++y16++y17).toArray),o11,o12,o7,o8,o16,o7,o17,o18,o19,o20,o21,o22,o7,o23,o24,o25,o7,o8,o26]
def c42:List (Params→Obj):=[o8,Jxv,o7,JzR,Jxw,JxE,o7,o8,JBG,o7,JyZ,JAa,JwP,fun P=>n (t q54) (.dict #[⟨1,(.int 1 885),(.int 0 954)⟩,⟨2,(.int 2 887),(.int 1 955)⟩,⟨3,(.int 3 889),(.int 3 956)⟩,⟨4,(.int 4 891),(.int 5 957)⟩,⟨5,(.int 5 893),(.int 7 958)⟩,⟨6,(.int 6 895),(.int 15 959)⟩] 6),o7,o21,fun P=>n (t q54) (.dict #[e P Jai 976 (s JcJ 952),e P Jb8 978 (s JhT 977),e P Jag 980 (.int 406 979),e P z180 988 (r 443),e P Jah 992 (r 444)] 5),o7,fun P=>jc [i 408,i 4,r 442],fun P=>jf JhT JhT Jb 971 [i 406,i 0,i 0,i 0,i 0,r 433,.bool false,i 181,r 434,.none,.none,.none,.none,i 974,i 406,s Jb 975],fun P=>⟨(t JbR),none,.plain,#[some (r 435),some (r 3),some (r 432),none,some (s JcJ 952),none,some (r 0)]⟩,o7,o8,fun P=>je [s JR 984,s Jcr 985],o7,fun P=>ja 116 1 z180 JsS,fun P=>jf z180 JsS Jb 981 [i 408,i 2,i 0,i 0,i 3,r 437,.bool true,i 181,r 438,.none,r 439,r 440,r 441,i 986,i 408,s Jb 987],fun P=>jb 116 1 z180 JsS (s JcJ 952) 442,fun P=>je [s Jcr 989,s Jl4 990,s JIm 991],fun P=>n (t q54) (.dict #[e P Jai 976 (s JcJ 952),e P Jag 980 (.int 406 979),e P z180 988 (r 443),e P Jah 992 (r 444),e P Jbp 994 (r 447),e P Ja8 996 (r 448),e P z2 997 .none] 4),fun P=>⟨(t q72),none,(.cls ⟨JhT,[t q63],[r 446,t q63],445,JhT,true,[],[],false,none,false⟩),#[none,none,some (s JhT 969),some (s JhT 977),some (b JcY),some (.bool true)]⟩,fun P=>n (t Jbd) (.fields #[s Jbp 993,r 446,b JeI,b JeE])]
def c43:List (Params→Obj):=[Jzq,JEo,JEB,o7,o8,JFg,o7,JDq,Jyd,Jyk,o7,o8,JxW,o7,JCh,JzV,Jzp]
def c44:List (Params→Obj):=[o0,o1,o13,fun P=>n (t q54) (.dict (k49 P++k21 P++k25 P++k26 P++k28 P++k29 P++k32 P++k34 P++k37 P++k38 P++k39 P++k41 P++k44 P++k45 P++k47 P++k50 P++k51 P).toArray 134),o4,o5,o6,o7,o8,o9,o10,o7,fun P=>n .none (.fields (y0++y1++y3++y4++y5++y7++y8++y10++y11++y13++y14++y16++y18++y19++y20).toArray),o11,o12,o7,o8,o16,o7,o17,o18,o19,o20,o21,o22,o7,o23,o24,o25,o7,o8,o26]
def c45:List (Params→Obj):=[Jzq,JEo,JEB,o7,o8,JFg,o7,JDq,Jyd,Jyk,o7,o8,JxW,o7,JCh,JzV,Jzp,o7,o8,fun P=>je [s Ja7 1022,s JI 1023,s JlZ 1024,s JF7 1025,s Jmw 1026],o7,fun P=>ja 119 0 Jj3 Jj3,fun P=>jf Jj3 Jj3 Jb 1019 [i 424,i 2,i 0,i 0,i 3,r 465,.bool true,i 181,r 466,.none,r 467,r 468,r 469,i 1027,i 424,s Jb 1028],fun P=>jb 119 0 Jj3 Jj3 (s JcJ 952) 470,o7,o8,fun P=>je [s Ja7 1033,s JlZ 1034,s Jdk 1035,s Jqb 1036,s JnW 1037,s Jgp 1038,s Jky 1039,s JlT 1040,s z230 1041],o7,fun P=>ja 120 0 Jjk Jjk,fun P=>jf Jjk Jjk Jb 1030 [i 432,i 4,i 0,i 0,i 3,r 472,.bool true,i 181,r 473,.none,r 474,r 475,r 476,i 1042,i 432,s Jb 1043],fun P=>jb 120 0 Jjk Jjk (s JcJ 952) 477,o7]
def c46:List (Params→Obj):=[o8,fun P=>je [s Ja7 1048,s JlZ 1049,s Jdk 1050,s Jqb 1051,s Jgp 1052,s Jky 1053,s Jl5 1054,s JE8 1055,s z374 1056],o7,fun P=>ja 121 0 Jka Jka,fun P=>jf Jka Jka Jb 1045 [i 444,i 5,i 0,i 0,i 3,r 479,.bool true,i 181,r 480,.none,r 481,r 482,r 483,i 1057,i 444,s Jb 1058],fun P=>jb 121 0 Jka Jka (s JcJ 952) 484,o7,o8,fun P=>je [s Ja7 1063,s JlZ 1064,s Jdk 1065,s Jqb 1066,s z230 1067,s JlT 1068,s JKk 1069,s JK0 1070,s JHy 1071,s JJ0 1072,s Jx9 1073],o7,fun P=>ja 122 0 Jjz Jjz,fun P=>jf Jjz Jjz Jb 1060 [i 461,i 6,i 0,i 0,i 3,r 486,.bool true,i 181,r 487,.none,r 488,r 489,r 490,i 1074,i 461,s Jb 1075],fun P=>jb 122 0 Jjz Jjz (s JcJ 952) 491,o7,o8,fun P=>je [s Ja7 1080,s Jgp 1081,s Jia 1082],o7,fun P=>ja 123 0 Jjw Jjw,fun P=>jf Jjw Jjw Jb 1077 [i 477,i 2,i 0,i 0,i 3,r 493,.bool true,i 181,r 494,.none,r 495,r 496,r 497,i 1083,i 477,s Jb 1084],fun P=>jb 123 0 Jjw Jjw (s JcJ 952) 498,o7,o8,fun P=>je [s Ja7 1089,s Jqb 1090,s Jgp 1091,s JMA 1092,s JJn 1093,s JvD 1094],o7,fun P=>ja 124 0 JjT JjT,fun P=>jf JjT JjT Jb 1086 [i 480,i 3,i 0,i 0,i 3,r 500,.bool true,i 181,r 501,.none,r 502,r 503,r 504,i 1095,i 480,s Jb 1096],fun P=>jb 124 0 JjT JjT (s JcJ 952) 505,o7,o8,fun P=>je [s Ja7 1101,s Jgp 1102,s Jky 1103],o7,fun P=>ja 125 0 Jik Jik]
def c47:List (Params→Obj):=[Jyz,JAx,o7,o8,JDT,o7,JxP,JED,JA9,o7,o8,JAu,o7,JC2,JA3,JyQ,o7,o8,JBW,o7,JxJ,JAv,JwB,o7,o8,JAQ,o7,JDI,JzK,JyC]
def c48:List (Params→Obj):=[o0,o1,o13,fun P=>n (t q54) (.dict (k49 P++k21 P++k25 P++k26 P++k28 P++k29 P++k32 P++k34 P++k37 P++k38 P++k39 P++k41 P++k44 P++k45 P++k47 P++k50 P++k52 P).toArray 136),o4,o5,o6,o7,o8,o9,o10,o7,fun P=>n .none (.fields (y0++y1++y3++y4++y5++y7++y8++y10++y11++y13++y14++y16++y18++y19++y20++y21).toArray),o11,o12,o7,o8,o16,o7,o17,o18,o19,o20,o21,o22,o7,o23,o24,o25,o7,o8,o26]
def c49:List (Params→Obj):=[Jyz,JAx,o7,o8,JDT,o7,JxP,JED,JA9,o7,o8,JAu,o7,JC2,JA3,JyQ,o7,o8,JBW,o7,JxJ,JAv,JwB,o7,o8,JAQ,o7,JDI,JzK,JyC,o7,o21]
def c50:List (Params→Obj):=[JxR,o7,JFA,JzF,JDg,o7,o8,JE7,o7,Jyh,Juy,Jvo,JCF,Js0,Jvn,JFO,JxH,JDK,Jy5]
def c51:List (Params→Obj):=[o0,o1,o13,fun P=>n (t q54) (.dict (k53 P++k21 P++k25 P++k26 P++k28 P++k29 P++k32 P++k34 P++k37 P++k38 P++k39 P++k41 P++k44 P++k45 P++k47 P++k50 P++k52 P++k54 P++k55 P).toArray 145),o4,o5,o6,o7,o8,o9,o10,o7,fun P=>n .none (.fields (y0++y1++y3++y4++y5++y7++y8++y10++y11++y13++y14++y16++y18++y19++y20++y22).toArray),o11,o12,o7,o8,o16,o7,o17,o18,o19,o20,o21,o22,o7,o23,o24,o25,o7,o8,o26]
def c52:List (Params→Obj):=[JxR,o7,JFA,JzF,JDg,o7,o8,JE7,o7,Jyh,Juy,Jvo,JCF,Js0,Jvn,JFO,JxH,JDK,Jy5,o7,o21,fun P=>n (t q54) (.dict #[e P Jai 1207 (s z358 1156),e P Jb8 1209 (s Jip 1208),e P Jag 1211 (.int 531 1210),e P z180 1218 (r 576),e P z231 1228 (r 583),e P JnG 1236 (r 590),e P Jmx 1242 (r 595),e P Jah 1244 (r 596)] 8),o7,fun P=>jc [i 533,i 4,r 575,i 536,i 4,r 582,i 539,i 4,r 589,i 543,i 4,r 594],fun P=>jf Jip Jip Jb 1202 [i 531,i 0,i 0,i 0,i 0,r 566,.bool false,i 181,r 567,.none,.none,.none,.none,i 1205,i 531,s Jb 1206],fun P=>⟨(t JbR),none,.plain,#[some (r 568),some (r 3),some (r 565),none,some (s z358 1156),none,some (r 0)]⟩,o7,o8,fun P=>je [s JR 1215],o7,fun P=>ja 134 1 z180 z413,JFe]
def c53:List (Params→Obj):=[JuZ,o7,o8,JDi,o7,JFy,Juw,JuK,o7,o8,JAN,o7,JyB,Jy2,JAV,o7,o8,JyR,Jxr,JEf,JAB,JsA,Jtt,JBc,JzQ,JCC,JAM]
def c54:List (Params→Obj):=[o0,o1,o13,fun P=>n (t q54) (.dict (k56 P++k21 P++k25 P++k26 P++k28 P++k29 P++k32 P++k34 P++k37 P++k38 P++k39 P++k41 P++k44 P++k45 P++k47 P++k50 P++k52 P++k54 P++k57 P).toArray 150),o4,o5,o6,o7,o8,o9,o10,o7,fun P=>n .none (.fields (y0++y1++y3++y4++y5++y7++y8++y10++y11++y13++y14++y16++y18++y19++y20++y23).toArray),o11,o12,o7,o8,o16,o7,o17,o18,o19,o20,o21,o22,o7,o23,o24,o25,o7,o8,o26]
def c55:List (Params→Obj):=[JuZ,o7,o8,JDi,o7,JFy,Juw,JuK,o7,o8,JAN,o7,JyB,Jy2,JAV,o7,o8,JyR,Jxr,JEf,JAB,JsA,Jtt,JBc,JzQ,JCC,JAM,o7,o21,fun P=>n (t q54) (.dict #[e P Jai 1283 (s z401 1252),e P Jb8 1285 (s Jgu 1284),e P Jag 1287 (.int 557 1286),e P z180 1296 (r 616),e P Jah 1306 (r 617)] 5),o7,fun P=>jc [i 559,i 4,r 615]]
def c56:List (Params→Obj):=[JE5,JyV,o7,o8,JA8,o7,Jzn,JsN,JsM,Jx1,JtZ,JuY,JAP,JFV,JzM,JFp]
def c57:List (Params→Obj):=[o0,o1,o13,fun P=>n (t q54) (.dict (k56 P++k21 P++k25 P++k26 P++k28 P++k29 P++k32 P++k34 P++k37 P++k38 P++k39 P++k41 P++k44 P++k45 P++k47 P++k50 P++k52 P++k54 P++k58 P).toArray 151),o4,o5,o6,o7,o8,o9,o10,o7,fun P=>n .none (.fields (y0++y1++y3++y4++y5++y7++y8++y10++y11++y13++y14++y16++y18++y19++y20++y24).toArray),o11,o12,o7,o8,o16,o7,o17,o18,o19,o20,o21,o22,o7,o23,o24,o25,o7,o8,o26]
def c58:List (Params→Obj):=[JE5,JyV,o7,o8,JA8,o7,Jzn,JsN,JsM,Jx1,JtZ,JuY,JAP,JFV,JzM,JFp,o7,o21,fun P=>n (t q54) (.dict #[e P Jai 1325 (s z419 1314),e P Jb8 1327 (s JgL 1326),e P Jag 1329 (.int 571 1328),e P z434 1339 (r 637),e P Jn4 1350 (r 644),e P Jah 1351 (r 645)] 6),o7,fun P=>jc [i 573,i 4,r 636,i 576,i 4,r 643],fun P=>jf JgL JgL Jb 1320 [i 571,i 0,i 0,i 0,i 0,r 627,.bool false,i 181,r 628,.none,.none,.none,.none,i 1323,i 571,s Jb 1324],fun P=>⟨(t JbR),none,.plain,#[some (r 629),some (r 3),some (r 626),none,some (s z419 1314),none,some (r 0)]⟩,o7,o8,fun P=>je [s JR 1333,s JaR 1334,s JaN 1335,s JI 1336],o7,fun P=>ja 150 1 z434 Jul,fun P=>jf z434 Jul Jb 1330 [i 573,i 4,i 0,i 0,i 3,r 631,.bool true,i 181,r 632,.none,r 633,r 634,r 635,i 1337,i 573,s Jb 1338],fun P=>jb 150 1 z434 Jul (s z419 1314) 636,o7,o8]
def c59:List (Params→Obj):=[JyM,o7,JDs,Jw0,JDv,o7,Jt6,JsJ,Jze,JzU,JDf,JBL]
def c60:List (Params→Obj):=[o0,o1,o13,fun P=>n (t q54) (.dict (k56 P++k21 P++k25 P++k26 P++k28 P++k29 P++k32 P++k34 P++k37 P++k38 P++k39 P++k41 P++k44 P++k45 P++k47 P++k50 P++k52 P++k54 P++k59 P).toArray 152),o4,o5,o6,o7,o8,o9,o10,o7,fun P=>n .none (.fields (y0++y1++y3++y4++y5++y7++y8++y10++y11++y13++y14++y16++y18++y19++y20++y24++y25).toArray),o11,o12,o7,o8,o16,o7,o17,o18,o19,o20,o21,o22,o7,o23,o24,o25,o7,o8,o26]
def c61:List (Params→Obj):=[JyM,o7,JDs,Jw0,JDv,o7,Jt6,JsJ,Jze,JzU,JDf,JBL,o7,o21,fun P=>n (t q54) (.dict #[e P Jai 1366 (s z419 1314),e P Jb8 1368 (s Jio 1367),e P Jag 1370 (.int 578 1369),e P z180 1377 (r 665),e P z442 1389 (r 672),e P JnB 1399 (r 679),e P JoB 1409 (r 686),e P Jno 1419 (r 693),e P Jnv 1428 (r 700),e P JgG 1437 (r 707),e P JfP 1446 (r 714),e P JnN 1455 (r 721),e P JmV 1464 (r 728),e P JnT 1475 (r 735),e P Jm3 1485 (r 742),e P Jah 1490 (r 743)] 16),o7,fun P=>n .none (.fields (y26++y27++y28).toArray),fun P=>jf Jio Jio Jb 1361 [i 578,i 0,i 0,i 0,i 0,r 655,.bool false,i 181,r 656,.none,.none,.none,.none,i 1364,i 578,s Jb 1365],fun P=>⟨(t JbR),none,.plain,#[some (r 657),some (r 3),some (r 654),none,some (s z419 1314),none,some (r 0)]⟩,o7,o8,fun P=>je [s JR 1374],o7,fun P=>ja 151 1 z180 z452,JAt,Jw9,o7,o8,fun P=>je [s JR 1381,s JaR 1382,s Jfb 1383,s JI 1384,s JaN 1385,s Jtx 1386],o7,fun P=>ja 151 2 z442 z455,JDD]
def c62:List (Params→Obj):=[JEW,o7,o8,fun P=>je [s JR 1393,s JaR 1394,s Jfb 1395,s JI 1396],o7,fun P=>ja 151 3 JnB JtJ,fun P=>jf JnB JtJ Jb 1390 [i 589,i 4,i 0,i 0,i 3,r 673,.bool true,i 181,r 674,.none,r 675,r 676,r 677,i 1397,i 589,s Jb 1398],fun P=>jb 151 3 JnB JtJ (s z419 1314) 678,o7,o8,fun P=>je [s JR 1403,s JaR 1404,s JBj 1405,s JnW 1406],o7,fun P=>ja 151 4 JoB Jvu,fun P=>jf JoB Jvu Jb 1400 [i 592,i 4,i 0,i 0,i 3,r 680,.bool true,i 181,r 681,.none,r 682,r 683,r 684,i 1407,i 592,s Jb 1408],fun P=>jb 151 4 JoB Jvu (s z419 1314) 685,o7,o8,fun P=>je [s JR 1413,s JaR 1414,s JBj 1415,s JI 1416],o7,fun P=>ja 151 5 Jno Juv,fun P=>jf Jno Juv Jb 1410 [i 595,i 4,i 0,i 0,i 3,r 687,.bool true,i 181,r 688,.none,r 689,r 690,r 691,i 1417,i 595,s Jb 1418],fun P=>jb 151 5 Jno Juv (s z419 1314) 692,o7,o8,fun P=>je [s JR 1423,s JaR 1424,s JI 1425],o7,fun P=>ja 151 6 Jnv Jui,fun P=>jf Jnv Jui Jb 1420 [i 598,i 3,i 0,i 0,i 3,r 694,.bool true,i 181,r 695,.none,r 696,r 697,r 698,i 1426,i 598,s Jb 1427],fun P=>jb 151 6 Jnv Jui (s z419 1314) 699,o7,o8,fun P=>je [s JR 1432,s JaR 1433,s JI 1434]]
def c63:List (Params→Obj):=[o7,fun P=>ja 151 7 JgG Juh,fun P=>jf JgG Juh Jb 1429 [i 601,i 3,i 0,i 0,i 3,r 701,.bool true,i 181,r 702,.none,r 703,r 704,r 705,i 1435,i 601,s Jb 1436],fun P=>jb 151 7 JgG Juh (s z419 1314) 706,o7,o8,fun P=>je [s JR 1441,s JaR 1442,s JI 1443],o7,fun P=>ja 151 8 JfP JtI,fun P=>jf JfP JtI Jb 1438 [i 604,i 3,i 0,i 0,i 3,r 708,.bool true,i 181,r 709,.none,r 710,r 711,r 712,i 1444,i 604,s Jb 1445],fun P=>jb 151 8 JfP JtI (s z419 1314) 713,o7,o8,fun P=>je [s JR 1450,s JaR 1451,s JI 1452],o7,fun P=>ja 151 9 JnN Jt5,fun P=>jf JnN Jt5 Jb 1447 [i 607,i 3,i 0,i 0,i 3,r 715,.bool true,i 181,r 716,.none,r 717,r 718,r 719,i 1453,i 607,s Jb 1454],fun P=>jb 151 9 JnN Jt5 (s z419 1314) 720,o7,o8,fun P=>je [s JR 1459,s JaR 1460,s JI 1461],o7,fun P=>ja 151 10 JmV JvZ,fun P=>jf JmV JvZ Jb 1456 [i 610,i 3,i 0,i 0,i 3,r 722,.bool true,i 181,r 723,.none,r 724,r 725,r 726,i 1462,i 610,s Jb 1463],fun P=>jb 151 10 JmV JvZ (s z419 1314) 727,o7,o8,fun P=>je [s JR 1468,s JaR 1469,s JMG 1470,s JJU 1471,s JaN 1472],o7,fun P=>ja 151 11 JnT Jtk,fun P=>jf JnT Jtk Jb 1465 [i 613,i 5,i 0,i 0,i 3,r 729,.bool true,i 181,r 730,.none,r 731,r 732,r 733,i 1473,i 613,s Jb 1474],fun P=>jb 151 11 JnT Jtk (s z419 1314) 734]
def c64:List (Params→Obj):=[o7,o8,JAr,o7,JCE,JEm,JyU,Jzi,Jsn,Jtp,Jz4,JwT,Jy8,JEj]
def c65:List (Params→Obj):=[o0,o1,o13,fun P=>n (t q54) (.dict (k56 P++k21 P++k25 P++k26 P++k28 P++k29 P++k32 P++k34 P++k37 P++k38 P++k39 P++k41 P++k44 P++k45 P++k47 P++k50 P++k52 P++k54 P++k59 P++k63 P).toArray 153),o4,o5,o6,o7,o8,o9,o10,o7,fun P=>n .none (.fields (y0++y1++y3++y4++y5++y7++y8++y10++y11++y13++y14++y16++y18++y19++y20++y24++y29).toArray),o11,o12,o7,o8,o16,o7,o17,o18,o19,o20,o21,o22,o7,o23,o24,o25,o7,o8,o26]
def c66:List (Params→Obj):=[o7,o8,JAr,o7,JCE,JEm,JyU,Jzi,Jsn,Jtp,Jz4,JwT,Jy8,JEj,o7,o21,fun P=>n (t q54) (.dict #[e P Jai 1505 (s z419 1314),e P Jb8 1507 (s Jed 1506),e P Jag 1509 (.int 618 1508),e P z474 1520 (r 763),e P Jah 1521 (r 764)] 5),o7,fun P=>jc [i 620,i 4,r 762],fun P=>jf Jed Jed Jb 1500 [i 618,i 0,i 0,i 0,i 0,r 753,.bool false,i 181,r 754,.none,.none,.none,.none,i 1503,i 618,s Jb 1504],fun P=>⟨(t JbR),none,.plain,#[some (r 755),some (r 3),some (r 752),none,some (s z419 1314),none,some (r 0)]⟩,o7,o8,fun P=>je [s JR 1513,s JaR 1514,s Jfb 1515,s JI 1516,s JaN 1517],o7,fun P=>ja 152 1 z474 z475,JyT,Jz5,o7,JBR,JyW,fun P=>n (t Jbd) (.fields #[s Jbp 1522,r 766,b JeI,b JeE])]
def c67:List (Params→Obj):=[Jsq,JtR,Jss]
def c68:List (Params→Obj):=[o0,o1,o13,fun P=>n (t q54) (.dict (k56 P++k21 P++k25 P++k26 P++k28 P++k29 P++k32 P++k34 P++k37 P++k38 P++k39 P++k41 P++k44 P++k45 P++k47 P++k50 P++k52 P++k54 P++k59 P++k64 P).toArray 154),o4,o5,o6,o7,o8,o9,o10,o7,fun P=>n .none (.fields (y0++y1++y3++y4++y5++y7++y8++y10++y11++y13++y14++y16++y18++y19++y20++y24++y30).toArray),o11,o12,o7,o8,o16,o7,o17,o18,o19,o20,o21,o22,o7,o23,o24,o25,o7,o8,o26]
def c69:List (Params→Obj):=[Jsq,JtR,Jss,o7,o21,JE2,o7,JCa,JDW,Jwt,o7,o8,Jw3,o7,JBO,JAS,JBg,o7,JtQ,Jvc,Jz2,JEy,JFY,JzI]
def c70:List (Params→Obj):=[o0,o1,o13,fun P=>n (t q54) (.dict (k56 P++k21 P++k25 P++k26 P++k28 P++k29 P++k32 P++k34 P++k37 P++k38 P++k39 P++k41 P++k44 P++k45 P++k47 P++k50 P++k52 P++k54 P++k59 P++k65 P).toArray 155),o4,o5,o6,o7,o8,o9,o10,o7,fun P=>n .none (.fields (y0++y1++y3++y4++y5++y7++y8++y10++y11++y13++y14++y16++y18++y19++y20++y24++y31).toArray),o11,o12,o7,o8,o16,o7,o17,o18,o19,o20,o21,o22,o7,o23,o24,o25,o7,o8,o26]
def c71:List (Params→Obj):=[Jsq,JtR,Jss,o7,o21,JE2,o7,JCa,JDW,Jwt,o7,o8,Jw3,o7,JBO,JAS,JBg,o7,JtQ,Jvc,Jz2,JEy,JFY,JzI,o7,o21,fun P=>n (t q54) (.dict #[e P Jai 1566 (s z419 1314),e P Jb8 1568 (s Jdj 1567),e P Jag 1570 (.int 626 1569),e P z180 1580 (r 805),e P Jcr 1588 (r 812),e P z480 1598 (r 819),e P z481 1606 (r 826),e P JdQ 1615 (r 833),e P Jah 1629 (r 834)] 9),o7,fun P=>jc [i 628,i 4,r 804,i 643,i 4,r 811,i 646,i 4,r 818,i 649,i 4,r 825,i 652,i 4,r 832],fun P=>jf Jdj Jdj Jb 1561 [i 626,i 0,i 0,i 0,i 0,r 795,.bool false,i 181,r 796,.none,.none,.none,.none,i 1564,i 626,s Jb 1565],fun P=>⟨(t JbR),none,.plain,#[some (r 797),some (r 3),some (r 794),none,some (s z419 1314),none,some (r 0)]⟩,o7]
def c72:List (Params→Obj):=[o8,fun P=>je [s JR 1574,s Ji4 1575,s Jf5 1576,s JjL 1577],o7,fun P=>ja 154 1 z180 Jug,fun P=>jf z180 Jug Jb 1571 [i 628,i 4,i 0,i 0,i 3,r 799,.bool true,i 181,r 800,.none,r 801,r 802,r 803,i 1578,i 628,s Jb 1579],fun P=>jb 154 1 z180 Jug (s z419 1314) 804,o7,o8,fun P=>je [s JR 1584,s JaN 1585],o7,fun P=>ja 154 2 Jcr JsU,fun P=>jf Jcr JsU Jb 1581 [i 643,i 2,i 0,i 0,i 3,r 806,.bool true,i 181,r 807,.none,r 808,r 809,r 810,i 1586,i 643,s Jb 1587],fun P=>jb 154 2 Jcr JsU (s z419 1314) 811,o7,o8,fun P=>je [s JR 1592,s JiR 1593,s JaN 1594,s JmJ 1595],o7,fun P=>ja 154 3 z480 JvX,fun P=>jf z480 JvX Jb 1589 [i 646,i 4,i 0,i 0,i 3,r 813,.bool true,i 181,r 814,.none,r 815,r 816,r 817,i 1596,i 646,s Jb 1597],fun P=>jb 154 3 z480 JvX (s z419 1314) 818,o7,o8,fun P=>je [s JR 1602,s JI 1603],o7,fun P=>ja 154 4 z481 z486,JB2,Jxg,o7,o8,fun P=>je [s JR 1610,s JI 1611,s JaN 1612],o7,fun P=>ja 154 5 JdQ JtB]
def c73:List (Params→Obj):=[JCu,JwQ,JC3,JtN,fun P=>⟨(t q72),none,(.cls ⟨Jdj,[t q63],[r 836,t q63],835,Jdj,true,[],[],false,none,false⟩),#[none,none,some (s Jdj 1559),some (s Jdj 1567),some (b JcY),some (.bool true)]⟩,JCX,Jxx,JCq,Jyf]
def c74:List (Params→Obj):=[o0,o1,o13,fun P=>n (t q54) (.dict (k56 P++k21 P++k25 P++k26 P++k28 P++k29 P++k32 P++k34 P++k37 P++k38 P++k39 P++k41 P++k44 P++k45 P++k47 P++k50 P++k52 P++k54 P++k59 P++k66 P).toArray 156),o4,o5,o6,o7,o8,o9,o10,o7,fun P=>n .none (.fields (y0++y1++y3++y4++y5++y7++y8++y10++y11++y13++y14++y16++y18++y19++y20++y24++y31++y32).toArray),o11,o12,o7,o8,o16,o7,o17,o18,o19,o20,o21,o22,o7,o23,o24,o25,o7,o8,o26]
def c75:List (Params→Obj):=[JCu,JwQ,JC3,JtN,JzZ,JCX,Jxx,JCq,Jyf,fun P=>je [r 836],o21,fun P=>n (t q54) (.dict #[e P Jai 1644 (s z419 1314),e P Jb8 1646 (s JdP 1645),e P Jag 1648 (.int 654 1647),e P z180 1658 (r 854),e P JgU 1667 (r 861),e P z434 1677 (r 868),e P z442 1688 (r 875),e P Jah 1709 (r 876)] 8),o7,fun P=>jc [i 656,i 4,r 853,i 678,i 4,r 860,i 681,i 4,r 867,i 684,i 4,r 874],fun P=>jf JdP JdP Jb 1639 [i 654,i 0,i 0,i 0,i 0,r 844,.bool false,i 181,r 845,.none,.none,.none,.none,i 1642,i 654,s Jb 1643],fun P=>⟨(t JbR),none,.plain,#[some (r 846),some (r 3),some (r 843),none,some (s z419 1314),none,some (r 0)]⟩,o7,o8,fun P=>je [s JR 1652,s Ji4 1653,s JjL 1654,s Jf5 1655],o7,fun P=>ja 155 1 z180 Jvq,fun P=>jf z180 Jvq Jb 1649 [i 656,i 4,i 0,i 0,i 3,r 848,.bool true,i 181,r 849,.none,r 850,r 851,r 852,i 1656,i 656,s Jb 1657],fun P=>jb 155 1 z180 Jvq (s z419 1314) 853,o7,o8,fun P=>je [s JR 1662,s JaN 1663,s Jzo 1664],o7,fun P=>ja 155 2 JgU Jvx,fun P=>jf JgU Jvx Jb 1659 [i 678,i 3,i 0,i 0,i 3,r 855,.bool true,i 181,r 856,.none,r 857,r 858,r 859,i 1665,i 678,s Jb 1666],fun P=>jb 155 2 JgU Jvx (s z419 1314) 860,o7,o8]
def c76:List (Params→Obj):=[JxD,o7,JAl,JEZ,JyJ,o7,o8,JFT,o7,JBD,Jyl,Jxa,Jx8,JuA,fun P=>⟨(t q72),none,(.cls ⟨JdP,[r 836],[r 878,r 836,t q63],877,JdP,true,[],[],false,none,false⟩),#[some (r 841),none,some (s JdP 1637),some (s JdP 1645),some (b JcY),some (.bool true)]⟩,JDU,JBe]
def c77:List (Params→Obj):=[o0,o1,o13,fun P=>n (t q54) (.dict (k56 P++k21 P++k25 P++k26 P++k28 P++k29 P++k32 P++k34 P++k37 P++k38 P++k39 P++k41 P++k44 P++k45 P++k47 P++k50 P++k52 P++k54 P++k59 P++k67 P).toArray 157),o4,o5,o6,o7,o8,o9,o10,o7,fun P=>n .none (.fields (y0++y1++y3++y4++y5++y7++y8++y10++y11++y13++y14++y16++y18++y19++y20++y24++y31++y33).toArray),o11,o12,o7,o8,o16,o7,o17,o18,o19,o20,o21,o22,o7,o23,o24,o25,o7,o8,o26]
def c78:List (Params→Obj):=[JxD,o7,JAl,JEZ,JyJ,o7,o8,JFT,o7,JBD,Jyl,Jxa,Jx8,JuA,Jzw,JDU,JBe,fun P=>je [r 878],o21,fun P=>n (t q54) (.dict #[e P Jai 1720 (s z419 1314),e P Jb8 1722 (s JgP 1721),e P Jag 1724 (.int 686 1723),e P z180 1734 (r 894),e P JgU 1743 (r 901),e P JoH 1751 (r 908),e P Jcr 1759 (r 915),e P z434 1769 (r 922),e P z442 1780 (r 929),e P z480 1790 (r 936),e P JdQ 1799 (r 943),e P JoC 1809 (r 950),e P Jnt 1817 (r 957),e P JoX 1824 (r 964),e P Jpc 1831 (r 971),e P Jah 1866 (r 972)] 16),o7,fun P=>n .none (.fields (y34++y35++y36).toArray),fun P=>jf JgP JgP Jb 1715 [i 686,i 0,i 0,i 0,i 0,r 884,.bool false,i 181,r 885,.none,.none,.none,.none,i 1718,i 686,s Jb 1719],fun P=>⟨(t JbR),none,.plain,#[some (r 886),some (r 3),some (r 883),none,some (s z419 1314),none,some (r 0)]⟩,o7,o8,fun P=>je [s JR 1728,s Ji4 1729,s JjL 1730,s Jf5 1731],o7,fun P=>ja 156 1 z180 z512,JDj,JB1,o7]
def c79:List (Params→Obj):=[o8,fun P=>je [s JR 1738,s JaN 1739,s Jzo 1740],o7,fun P=>ja 156 2 JgU JsD,fun P=>jf JgU JsD Jb 1735 [i 724,i 3,i 0,i 0,i 3,r 895,.bool true,i 181,r 896,.none,r 897,r 898,r 899,i 1741,i 724,s Jb 1742],fun P=>jb 156 2 JgU JsD (s z419 1314) 900,o7,o8,fun P=>je [s JR 1747,s JaN 1748],o7,fun P=>ja 156 3 JoH Jtu,fun P=>jf JoH Jtu Jb 1744 [i 727,i 2,i 0,i 0,i 3,r 902,.bool true,i 181,r 903,.none,r 904,r 905,r 906,i 1749,i 727,s Jb 1750],fun P=>jb 156 3 JoH Jtu (s z419 1314) 907,o7,o8,fun P=>je [s JR 1755,s JaN 1756],o7,fun P=>ja 156 4 Jcr JsY,fun P=>jf Jcr JsY Jb 1752 [i 730,i 2,i 0,i 0,i 3,r 909,.bool true,i 181,r 910,.none,r 911,r 912,r 913,i 1757,i 730,s Jb 1758],fun P=>jb 156 4 Jcr JsY (s z419 1314) 914,o7,o8,fun P=>je [s JR 1763,s Jfb 1764,s JI 1765,s JaN 1766],o7,fun P=>ja 156 5 z434 z516,JFz,JxN,o7,o8,fun P=>je [s JR 1773,s Jfb 1774,s JI 1775,s JaN 1776,s Jtx 1777],o7,fun P=>ja 156 6 z442 JtT]
def c80:List (Params→Obj):=[fun P=>jf z442 JtT Jb 1770 [i 736,i 5,i 0,i 0,i 3,r 923,.bool true,i 181,r 924,.none,r 925,r 926,r 927,i 1778,i 736,s Jb 1779],fun P=>jb 156 6 z442 JtT (s z419 1314) 928,o7,o8,fun P=>je [s JR 1784,s JiR 1785,s JaN 1786,s JmJ 1787],o7,fun P=>ja 156 7 z480 z518,Jzj,JEI,o7,o8,fun P=>je [s JR 1794,s JI 1795,s JaN 1796],o7,fun P=>ja 156 8 JdQ JtV,fun P=>jf JdQ JtV Jb 1791 [i 742,i 3,i 0,i 0,i 3,r 937,.bool true,i 181,r 938,.none,r 939,r 940,r 941,i 1797,i 742,s Jb 1798],fun P=>jb 156 8 JdQ JtV (s z419 1314) 942,o7,o8,fun P=>je [s JR 1803,s Jd7 1804,s Jcr 1805,s Jia 1806],o7,fun P=>ja 156 9 JoC Jsh,fun P=>jf JoC Jsh Jb 1800 [i 745,i 4,i 0,i 0,i 3,r 944,.bool true,i 181,r 945,.none,r 946,r 947,r 948,i 1807,i 745,s Jb 1808],fun P=>jb 156 9 JoC Jsh (s z419 1314) 949,o7,o8,fun P=>je [s JR 1813,s Jd7 1814],o7,fun P=>ja 156 10 Jnt Jtm,fun P=>jf Jnt Jtm Jb 1810 [i 748,i 2,i 0,i 0,i 3,r 951,.bool true,i 181,r 952,.none,r 953,r 954,r 955,i 1815,i 748,s Jb 1816],fun P=>jb 156 10 Jnt Jtm (s z419 1314) 956,o7,o8]
def c81:List (Params→Obj):=[JFu,o7,JEM,JCd,Jzg,o7,o8,Jxf,o7,JBK,JEQ,JwX,JFK,Ju9,Juz,JzT,Jzb]
def c82:List (Params→Obj):=[o0,o1,o13,fun P=>n (t q54) (.dict (k68 P++k21 P++k25 P++k26 P++k28 P++k29 P++k32 P++k34 P++k37 P++k38 P++k39 P++k41 P++k44 P++k45 P++k47 P++k50 P++k52 P++k54 P++k59 P++k69 P++k70 P++k71 P++k72 P).toArray 178),o4,o5,o6,o7,o8,o9,o10,o7,fun P=>n .none (.fields (y0++y1++y3++y4++y5++y7++y8++y10++y11++y13++y14++y16++y18++y19++y20++y24++y31++y40++y41++y42).toArray),o11,o12,o7,o8,o16,o7,o17,o18,o19,o20,o21,o22,o7,o23,o24,o25,o7,o8,o26]
def c83:List (Params→Obj):=[JFu,o7,JEM,JCd,Jzg,o7,o8,Jxf,o7,JBK,JEQ,JwX,JFK,Ju9,Juz,JzT,Jzb,o7,o8,fun P=>je [s Jcr 1873],o7,fun P=>ja 157 0 z536 z536,JFS,JAA,o7,o8,fun P=>je [s JGY 1880,s JaR 1881,s Jfb 1882,s JI 1883,s JaN 1884,s JLI 1885],o7,fun P=>ja 158 0 z537 z537,Jw5,JFQ,o7]
def c84:List (Params→Obj):=[o8,fun P=>je [s Jfb 1892],o7,fun P=>ja 159 0 z538 z538,JDt,JA1,o7,o8,fun P=>je [s JaR 1899,s JaN 1900],o7,fun P=>ja 160 0 z539 z539,Jw8,JBn,o7,o8,fun P=>je [s JaR 1907,s JaN 1908],o7,fun P=>ja 161 0 JjS JjS,fun P=>jf JjS JjS Jb 1904 [i 772,i 2,i 0,i 0,i 3,r 1005,.bool true,i 181,r 1006,.none,r 1007,r 1008,r 1009,i 1909,i 772,s Jb 1910],fun P=>jb 161 0 JjS JjS (s z419 1314) 1010,o7,o8,fun P=>je [s JaR 1915,s JaN 1916,s JMq 1917,s JI 1918],o7,fun P=>ja 162 0 Jkb Jkb,fun P=>jf Jkb Jkb Jb 1912 [i 777,i 2,i 0,i 0,i 3,r 1012,.bool true,i 181,r 1013,.none,r 1014,r 1015,r 1016,i 1919,i 777,s Jb 1920],fun P=>jb 162 0 Jkb Jkb (s z419 1314) 1017,o7,o8,fun P=>je [s JaR 1953,s JiR 1954,s JaN 1955,s JmJ 1956],o7,fun P=>ja 177 0 z555 z555]
def c85:List (Params→Obj):=[Ju1,Juq,o7,o8,JAb,Jsx,JvO]
def c86:List (Params→Obj):=[o0,o1,o13,fun P=>n (t q54) (.dict (k68 P++k21 P++k25 P++k26 P++k28 P++k29 P++k32 P++k34 P++k37 P++k38 P++k39 P++k41 P++k44 P++k45 P++k47 P++k50 P++k52 P++k54 P++k59 P++k69 P++k70 P++k71 P++k73 P++k74 P).toArray 190),o4,o5,o6,o7,o8,o9,o10,o7,fun P=>n .none (.fields (y0++y1++y3++y4++y5++y7++y8++y10++y11++y13++y14++y16++y18++y19++y20++y24++y31++y40++y41++y43++y44++y45++y46).toArray),o11,o12,o7,o8,o16,o7,o17,o18,o19,o20,o21,o22,o7,o23,o24,o25,o7,o8,o26]
def c87:List (Params→Obj):=[Ju1,Juq,o7,o8,JAb,Jsx,JvO,o7,o8,fun P=>je [s Ja7 1969,s JhC 1970,s Jky 1971,s Jgp 1972,s JvY 1973],o7,fun P=>ja 179 0 Jj1 Jj1,fun P=>jf Jj1 Jj1 Jb 1966 [i 819,i 3,i 0,i 0,i 3,r 1031,.bool true,i 181,r 1032,.none,r 1033,r 1034,r 1035,i 1974,i 819,s Jb 1975],fun P=>jb 179 0 Jj1 Jj1 (s z535 1922) 1036,o7,o8,fun P=>je [s z230 1980],o7,fun P=>ja 180 0 z561 z561,JxG,JC8,o7,o8,fun P=>je [s JaR 1987,s JI 1988],o7,fun P=>ja 181 0 z562 z562,JCU,JDJ,o7,o8,fun P=>je [s JaR 1995,s JaN 1996,s JiR 1997,s JGR 1998,s JI 1999],o7]
def c88:List (Params→Obj):=[fun P=>ja 182 0 z563 z563,JCO,JBz,o7,o8,fun P=>je [s JaR 2006,s Jjt 2007,s Jh5 2008,s JlV 2009,s JaN 2010,s Jd7 2011],o7,fun P=>ja 183 0 z564 z564,JAs,JEN,o7,o8,fun P=>je [s JaR 2018,s Jjt 2019,s Jvj 2020,s Jh5 2021,s JaN 2022,s Jky 2023,s JI 2024,s JKS 2025],o7,fun P=>ja 184 0 z565 z565,JCt,JFR,o7,o8,fun P=>je [s JaR 2032,s Jqy 2033,s JI 2034,s JaN 2035,s z230 2036,s JvN 2037],o7,fun P=>ja 185 0 z566 z566,Jxc,JAH,o7,o8,fun P=>je [s JaR 2044,s Jl5 2045,s Jjt 2046,s Jh5 2047,s JaN 2048,s Jd7 2049,s Jzv 2050,s JF6 2051,s JI 2052],o7,fun P=>ja 186 0 z567 z567,JD6,JCv,o7]
def c89:List (Params→Obj):=[o8,JFv,JzA,JBT,o7,o8,Jxd,o7,JAi,Jz8,JEH,o7,o8,JyH,o7,JFn,Jt0,JuJ,o7,o8,JBP,o7,JCw,Jxo,Jxe]
def c90:List (Params→Obj):=[o0,o1,o13,fun P=>n (t q54) (.dict (k75 P++k21 P++k25 P++k26 P++k28 P++k29 P++k32 P++k34 P++k37 P++k38 P++k39 P++k41 P++k44 P++k45 P++k47 P++k50 P++k52 P++k54 P++k59 P++k69 P++k70 P++k71 P++k73 P++k76 P).toArray 192),o4,o5,o6,o7,o8,o9,o10,o7,fun P=>n .none (.fields (y0++y1++y3++y4++y5++y7++y8++y10++y11++y13++y14++y16++y18++y19++y20++y24++y31++y40++y41++y43++y44++y45++y47).toArray),o11,o12,o7,o8,o16,o7,o17,o18,o19,o20,o21,o22,o7,o23,o24,o25,o7,o8,o26]
def c91:List (Params→Obj):=[o8,JFv,JzA,JBT,o7,o8,Jxd,o7,JAi,Jz8,JEH,o7,o8,JyH,o7,JFn,Jt0,JuJ,o7,o8,JBP,o7,JCw,Jxo,Jxe,o7,o8,fun P=>je [s JaR 2098,s Jdk 2099,s JI 2100,s z230 2101,s Jjt 2102,s Jh5 2103,s Jju 2104,s JaN 2105,s JL4 2106,s JI9 2107,s JIa 2108,s Jia 2109,s JLV 2110],o7,fun P=>ja 191 0 z578 z578,JDd,Jz6]
def c92:List (Params→Obj):=[o7,o8,Jyg,o7,JC0,Jty,Jtf]
def c93:List (Params→Obj):=[o0,o1,o13,fun P=>n (t q54) (.dict (k75 P++k21 P++k25 P++k26 P++k28 P++k29 P++k32 P++k34 P++k37 P++k38 P++k39 P++k41 P++k44 P++k45 P++k47 P++k50 P++k52 P++k54 P++k59 P++k69 P++k70 P++k71 P++k73 P++k76 P++k77 P).toArray 193),o4,o5,o6,o7,o8,o9,o10,o7,fun P=>n .none (.fields (y0++y1++y3++y4++y5++y7++y8++y10++y11++y13++y14++y16++y18++y19++y20++y24++y31++y40++y41++y43++y44++y45++y47++y48).toArray),o11,o12,o7,o8,o16,o7,o17,o18,o19,o20,o21,o22,o7,o23,o24,o25,o7,o8,o26]
def c94:List (Params→Obj):=[o7,o8,Jyg,o7,JC0,Jty,Jtf,o7,o21,fun P=>n (t q54) (.dict #[e P Jai 2137 (s z577 2128),e P Jb8 2139 (s JfZ 2138),e P Jag 2141 (.int 959 2140),e P z180 2149 (r 1140),e P z374 2157 (r 1147),e P Jnp 2165 (r 1154),e P z248 2173 (r 1161),e P Jnr 2181 (r 1168),e P JgG 2189 (r 1175),e P Jnj 2197 (r 1182),e P Jah 2207 (r 1183)] 11),o7,fun P=>jc [i 961,i 4,r 1139,i 972,i 4,r 1146,i 975,i 4,r 1153,i 978,i 4,r 1160,i 981,i 4,r 1167,i 984,i 4,r 1174,i 987,i 4,r 1181],fun P=>jf JfZ JfZ Jb 2132 [i 959,i 0,i 0,i 0,i 0,r 1130,.bool false,i 181,r 1131,.none,.none,.none,.none,i 2135,i 959,s Jb 2136],fun P=>⟨(t JbR),none,.plain,#[some (r 1132),some (r 3),some (r 1129),none,some (s z577 2128),none,some (r 0)]⟩,o7,o8,fun P=>je [s JR 2145,s Jbf 2146],o7,fun P=>ja 194 1 z180 z588,JAw,Jws,o7,o8,fun P=>je [s JR 2153,s JI 2154],o7,fun P=>ja 194 2 z374 z589,JC6,JFZ,o7,o8,fun P=>je [s JR 2161,s JI 2162],o7]
def c95:List (Params→Obj):=[fun P=>ja 194 3 Jnp Jt4,fun P=>jf Jnp Jt4 Jb 2158 [i 975,i 2,i 0,i 0,i 3,r 1148,.bool true,i 181,r 1149,.none,r 1150,r 1151,r 1152,i 2163,i 975,s Jb 2164],fun P=>jb 194 3 Jnp Jt4 (s z577 2128) 1153,o7,o8,fun P=>je [s JR 2169,s JI 2170],o7,fun P=>ja 194 4 z248 z591,JF2,JCy,o7,o8,fun P=>je [s JR 2177,s JhC 2178],o7,fun P=>ja 194 5 Jnr Jsy,fun P=>jf Jnr Jsy Jb 2174 [i 981,i 2,i 0,i 0,i 3,r 1162,.bool true,i 181,r 1163,.none,r 1164,r 1165,r 1166,i 2179,i 981,s Jb 2180],fun P=>jb 194 5 Jnr Jsy (s z577 2128) 1167,o7,o8,fun P=>je [s JR 2185,s JI 2186],o7,fun P=>ja 194 6 JgG JuE,fun P=>jf JgG JuE Jb 2182 [i 984,i 2,i 0,i 0,i 3,r 1169,.bool true,i 181,r 1170,.none,r 1171,r 1172,r 1173,i 2187,i 984,s Jb 2188],fun P=>jb 194 6 JgG JuE (s z577 2128) 1174,o7,o8,fun P=>je [s JR 2193,s JI 2194],o7,fun P=>ja 194 7 Jnj Ju6,fun P=>jf Jnj Ju6 Jb 2190 [i 987,i 2,i 0,i 0,i 3,r 1176,.bool true,i 181,r 1177,.none,r 1178,r 1179,r 1180,i 2195,i 987,s Jb 2196],fun P=>jb 194 7 Jnj Ju6 (s z577 2128) 1181,fun P=>je [s JHN 2198,s JLS 2199,s JHu 2200,s JM8 2201,s Jbf 2202,s JHm 2203,s JLF 2204,s JFD 2205,s JJG 2206]]
def c96:List (Params→Obj):=[Jsu,Jvf,Jzm,JEq,Jxp,JB6]
def c97:List (Params→Obj):=[o0,o1,o13,fun P=>n (t q54) (.dict (k78 P++k21 P++k25 P++k26 P++k28 P++k29 P++k32 P++k34 P++k37 P++k38 P++k39 P++k41 P++k44 P++k45 P++k47 P++k50 P++k52 P++k54 P++k59 P++k69 P++k70 P++k71 P++k73 P++k76 P++k79 P).toArray 197),o4,o5,o6,o7,o8,o9,o10,o7,fun P=>n .none (.fields (y0++y1++y3++y4++y5++y7++y8++y10++y11++y13++y14++y16++y18++y19++y20++y24++y31++y40++y41++y43++y44++y45++y47++y49).toArray),o11,o12,o7,o8,o16,o7,o17,o18,o19,o20,o21,o22,o7,o23,o24,o25,o7,o8,o26]
def c98:List (Params→Obj):=[Jsu,Jvf,Jzm,JEq,Jxp,JB6,JAC,JFc,Jwr,JAT,JAm,JCA,Jwu,JCV,Jx4,JFW,JAX,JBA,JFP,JAy,JEE,JCs,JBM,JFo,JCr,Jzc,JEg,JAj,JBt,JAp,JxL,o7]
def c99:List (Params→Obj):=[o8,JyE,o7,JCQ,Jt2,JvL,o7,o8,JFk,o7,JzS,Jvl,JvH]
def JKj:List (Params→Obj):=[o0,o1,o13,fun P=>n (t q54) (.dict (k78 P++k21 P++k25 P++k26 P++k28 P++k29 P++k32 P++k34 P++k37 P++k38 P++k39 P++k41 P++k44 P++k45 P++k47 P++k50 P++k52 P++k54 P++k59 P++k69 P++k70 P++k71 P++k73 P++k76 P++k80 P++k81 P).toArray 208),o4,o5,o6,o7,o8,o9,o10,o7,fun P=>n .none (.fields (y0++y1++y3++y4++y5++y7++y8++y10++y11++y13++y14++y16++y18++y19++y20++y24++y31++y40++y41++y43++y44++y45++y47++y50++y51++y52++y53).toArray),o11,o12,o7,o8,o16,o7,o17,o18,o19,o20,o21,o22,o7,o23,o24,o25,o7,o8,o26]
def Jvv:List (Params→Obj):=[o8,JyE,o7,JCQ,Jt2,JvL,o7,o8,JFk,o7,JzS,Jvl,JvH,o7,o8,fun P=>je [s JgK 2490,s Jmb 2491,s Jd7 2492,s Jia 2493,s Jl4 2494],o7,fun P=>ja 200 0 z615 z615,JxF,JwA,o7,o8,fun P=>je [s JgK 2501,s Ji4 2502,s JkH 2503,s Jmb 2504,s Jd7 2505,s Ja7 2506,s JL3 2507,s JHT 2508,s JKe 2509,s JJa 2510,s JfP 2511,s Jqy 2512,s Jia 2513,s JvN 2514,s JsO 2515],o7,fun P=>ja 201 0 z616 z616,Jyu,JCY,o7,o8,fun P=>ja 202 0 z617 z617,JEe,Jy9]
def Juo:List (Params→Obj):=[o7,o8,fun P=>je [s JgK 2528,s JkH 2529,s Jmb 2530,s Jd7 2531,s Jia 2532,s JJo 2533,s JMY 2534,s Jcr 2535],o7,fun P=>ja 203 0 z618 z618,JDy,Jy6,o7,o8,fun P=>je [s JgK 2542,s Ji4 2543,s JkH 2544,s Jmb 2545,s Jd7 2546,s Jl4 2547],o7,fun P=>ja 204 0 z619 z619,JCB,Jxl,o7,o8,fun P=>je [s JgK 2554,s JkH 2555,s Jh5 2556,s JpH 2557,s Jdk 2558],o7,fun P=>ja 205 0 z620 z620,JDS,Jye,o7,o8,fun P=>je [s JkH 2565,s Jh5 2566,s Jmb 2567,s JI 2568],o7,fun P=>ja 206 0 z621 z621,JFw,JFh,o7,o8,fun P=>je [s JiR 2575,s JmJ 2576],o7]
def JJD:List (Params→Obj):=[Jzy,JuS,Jvm,o7,o8,JCI,o7,JCP,JsI,Jsk,o7,o8,JAY,o7,JDa,JtO,JtW,o7,o8,Jxt,o7,JxA,JvG,JsC]
def JDH:List (Params→Obj):=[o0,o1,o13,o878,o4,o5,o6,o7,o8,o9,o10,o7,fun P=>n .none (.fields (y0++y1++y3++y4++y5++y7++y8++y10++y11++y13++y14++y16++y18++y19++y20++y24++y31++y40++y41++y43++y44++y45++y47++y50++y51++y52++y54++y55).toArray),o11,o12,o7,o8,o16,o7,o17,o18,o19,o20,o21,o22,o7,o23,o24,o25,o7,o8,o26]
def JF3:List (Params→Obj):=[Jzy,JuS,Jvm,o7,o8,JCI,o7,JCP,JsI,Jsk,o7,o8,JAY,o7,JDa,JtO,JtW,o7,o8,Jxt,o7,JxA,JvG,JsC,o7,o8,fun P=>je [s JgK 2616,s JkH 2617,s Jl5 2618,s JsO 2619,s Jh5 2620,s Jjt 2621,s JpH 2622,s Jd7 2623,s z248 2624,s JmI 2625,s JI 2626,s JIk 2627],o7,fun P=>ja 211 0 z638 z638,JxY,JEL,o7]
def JAJ:List (Params→Obj):=[o8,fun P=>je [s JgK 2634,s JHL 2635,s JkH 2636,s Jdk 2637,s Jh5 2638,s JpH 2639,s Jmb 2640,s Jd7 2641,s Jl5 2642,s JsO 2643,s Jjt 2644,s JIn 2645,s JMj 2646,s JmI 2647,s JiR 2648,s JmJ 2649,s JIH 2650],o7,fun P=>ja 212 0 z639 z639,JDY,JAZ,o7,o8,fun P=>ja 213 0 z640 z640,JF0,JDA]
noncomputable def JS:Life:=⟨[],[],[],0,[],[],false,#[],[],0,false,false,false,0,[2000,10,10],false,0,true,[],[],0,false⟩
def L0:List (Params→Obj):=c0
def S0 (w:World)(os:OsState):SharedT:=⟨mkT 12 w.params L0,15,JS,⟨[]⟩,dr,187,os⟩
def L1:List (Params→Obj):=c0
def S1 (w:World)(os:OsState):SharedT:=⟨mkT 12 w.params L1,15,JS,⟨[]⟩,dr,187,os⟩
def L2:List (Params→Obj):=c1++c2
def S2 (w:World)(os:OsState):SharedT:=⟨mkT 12 w.params L2,42,JS,⟨[]⟩,dr,235,os⟩
def L3:List (Params→Obj):=c3++c4
def S3 (w:World)(os:OsState):SharedT:=⟨mkT 12 w.params L3,54,JS,⟨[]⟩,dr,251,os⟩
def L4:List (Params→Obj):=c5++c6++c7
def S4 (w:World)(os:OsState):SharedT:=⟨mkT 12 w.params L4,66,JS,⟨[]⟩,dr,267,os⟩
def L5:List (Params→Obj):=c8++c9++c10
def S5 (w:World)(os:OsState):SharedT:=⟨mkT 12 w.params L5,78,JS,⟨[]⟩,dr,283,os⟩
def L6:List (Params→Obj):=c11++c12++c13
def S6 (w:World)(os:OsState):SharedT:=⟨mkT 12 w.params L6,90,JS,⟨[]⟩,dr,339,os⟩
def L7:List (Params→Obj):=c14++c12++c15
def S7 (w:World)(os:OsState):SharedT:=⟨mkT 12 w.params L7,91,JS,⟨[]⟩,dr,390,os⟩
def L8:List (Params→Obj):=c16++c12++c17
def S8 (w:World)(os:OsState):SharedT:=⟨mkT 12 w.params L8,92,JS,⟨[]⟩,dr,423,os⟩
def L9:List (Params→Obj):=c18++c12++c19++c20++c21
def S9 (w:World)(os:OsState):SharedT:=⟨mkT 12 w.params L9,148,JS,⟨[]⟩,dr,502,os⟩
def L10:List (Params→Obj):=c22++c12++c19++c20++c23++c24++c25++c26
def S10 (w:World)(os:OsState):SharedT:=⟨mkT 12 w.params L10,239,JS,⟨[]⟩,dr,615,os⟩
def L11:List (Params→Obj):=c27++c12++c19++c20++c23++c24++c25++c28++c29++c30
def S11 (w:World)(os:OsState):SharedT:=⟨mkT 12 w.params L11,295,JS,⟨[]⟩,dr,726,os⟩
def L12:List (Params→Obj):=c31++c12++c19++c20++c23++c24++c25++c28++c29++c32
def S12 (w:World)(os:OsState):SharedT:=⟨mkT 12 w.params L12,316,JS,⟨[]⟩,dr,772,os⟩
def L13:List (Params→Obj):=c33++c12++c19++c20++c23++c24++c25++c28++c29++c34++c35++c36
def S13 (w:World)(os:OsState):SharedT:=⟨mkT 12 w.params L13,372,JS,⟨[]⟩,dr,858,os⟩
def L14:List (Params→Obj):=c37++c12++c19++c20++c23++c24++c25++c28++c29++c34++c35++c38++c39++c40
def S14 (w:World)(os:OsState):SharedT:=⟨mkT 12 w.params L14,429,JS,⟨[]⟩,dr,954,os⟩
def L15:List (Params→Obj):=c41++c12++c19++c20++c23++c24++c25++c28++c29++c34++c35++c38++c39++c42++c43
def S15 (w:World)(os:OsState):SharedT:=⟨mkT 12 w.params L15,465,JS,⟨[]⟩,dr,1019,os⟩
def L16:List (Params→Obj):=c44++c12++c19++c20++c23++c24++c25++c28++c29++c34++c35++c38++c39++c42++c45++c46++c47
def S16 (w:World)(os:OsState):SharedT:=⟨mkT 12 w.params L16,542,JS,⟨[]⟩,dr,1160,os⟩
def L17:List (Params→Obj):=c48++c12++c19++c20++c23++c24++c25++c28++c29++c34++c35++c38++c39++c42++c45++c46++c49++c50
def S17 (w:World)(os:OsState):SharedT:=⟨mkT 12 w.params L17,563,JS,⟨[]⟩,dr,1200,os⟩
def L18:List (Params→Obj):=c51++c12++c19++c20++c23++c24++c25++c28++c29++c34++c35++c38++c39++c42++c45++c46++c49++c52++c53
def S18 (w:World)(os:OsState):SharedT:=⟨mkT 12 w.params L18,603,JS,⟨[]⟩,dr,1270,os⟩
def L19:List (Params→Obj):=c54++c12++c19++c20++c23++c24++c25++c28++c29++c34++c35++c38++c39++c42++c45++c46++c49++c52++c55++c56
def S19 (w:World)(os:OsState):SharedT:=⟨mkT 12 w.params L19,624,JS,⟨[]⟩,dr,1318,os⟩
def L20:List (Params→Obj):=c57++c12++c19++c20++c23++c24++c25++c28++c29++c34++c35++c38++c39++c42++c45++c46++c49++c52++c55++c58++c59
def S20 (w:World)(os:OsState):SharedT:=⟨mkT 12 w.params L20,652,JS,⟨[]⟩,dr,1359,os⟩
def L21:List (Params→Obj):=c60++c12++c19++c20++c23++c24++c25++c28++c29++c34++c35++c38++c39++c42++c45++c46++c49++c52++c55++c58++c61++c62++c63++c64
def S21 (w:World)(os:OsState):SharedT:=⟨mkT 12 w.params L21,750,JS,⟨[]⟩,dr,1498,os⟩
def L22:List (Params→Obj):=c65++c12++c19++c20++c23++c24++c25++c28++c29++c34++c35++c38++c39++c42++c45++c46++c49++c52++c55++c58++c61++c62++c63++c66++c67
def S22 (w:World)(os:OsState):SharedT:=⟨mkT 12 w.params L22,771,JS,⟨[]⟩,dr,1529,os⟩
def L23:List (Params→Obj):=c68++c12++c19++c20++c23++c24++c25++c28++c29++c34++c35++c38++c39++c42++c45++c46++c49++c52++c55++c58++c61++c62++c63++c66++c69
def S23 (w:World)(os:OsState):SharedT:=⟨mkT 12 w.params L23,792,JS,⟨[]⟩,dr,1559,os⟩
def L24:List (Params→Obj):=c70++c12++c19++c20++c23++c24++c25++c28++c29++c34++c35++c38++c39++c42++c45++c46++c49++c52++c55++c58++c61++c62++c63++c66++c71++c72++c73
def S24 (w:World)(os:OsState):SharedT:=⟨mkT 12 w.params L24,841,JS,⟨[]⟩,dr,1637,os⟩
def L25:List (Params→Obj):=c74++c12++c19++c20++c23++c24++c25++c28++c29++c34++c35++c38++c39++c42++c45++c46++c49++c52++c55++c58++c61++c62++c63++c66++c71++c72++c75++c76
def S25 (w:World)(os:OsState):SharedT:=⟨mkT 12 w.params L25,881,JS,⟨[]⟩,dr,1713,os⟩
def L26:List (Params→Obj):=c77++c12++c19++c20++c23++c24++c25++c28++c29++c34++c35++c38++c39++c42++c45++c46++c49++c52++c55++c58++c61++c62++c63++c66++c71++c72++c75++c78++c79++c80++c81
def S26 (w:World)(os:OsState):SharedT:=⟨mkT 12 w.params L26,977,JS,⟨[]⟩,dr,1870,os⟩
def L27:List (Params→Obj):=c82++c12++c19++c20++c23++c24++c25++c28++c29++c34++c35++c38++c39++c42++c45++c46++c49++c52++c55++c58++c61++c62++c63++c66++c71++c72++c75++c78++c79++c80++c83++c84++c85
def S27 (w:World)(os:OsState):SharedT:=⟨mkT 12 w.params L27,1031,JS,⟨[]⟩,dr,1966,os⟩
def L28:List (Params→Obj):=c86++c12++c19++c20++c23++c24++c25++c28++c29++c34++c35++c38++c39++c42++c45++c46++c49++c52++c55++c58++c61++c62++c63++c66++c71++c72++c75++c78++c79++c80++c83++c84++c87++c88++c89
def S28 (w:World)(os:OsState):SharedT:=⟨mkT 12 w.params L28,1113,JS,⟨[]⟩,dr,2095,os⟩
def L29:List (Params→Obj):=c90++c12++c19++c20++c23++c24++c25++c28++c29++c34++c35++c38++c39++c42++c45++c46++c49++c52++c55++c58++c61++c62++c63++c66++c71++c72++c75++c78++c79++c80++c83++c84++c87++c88++c91++c92
def S29 (w:World)(os:OsState):SharedT:=⟨mkT 12 w.params L29,1127,JS,⟨[]⟩,dr,2130,os⟩
def L30:List (Params→Obj):=c93++c12++c19++c20++c23++c24++c25++c28++c29++c34++c35++c38++c39++c42++c45++c46++c49++c52++c55++c58++c61++c62++c63++c66++c71++c72++c75++c78++c79++c80++c83++c84++c87++c88++c91++c94++c95++c96
def S30 (w:World)(os:OsState):SharedT:=⟨mkT 12 w.params L30,1190,JS,⟨[]⟩,dr,2215,os⟩
def L31:List (Params→Obj):=c97++c12++c19++c20++c23++c24++c25++c28++c29++c34++c35++c38++c39++c42++c45++c46++c49++c52++c55++c58++c61++c62++c63++c66++c71++c72++c75++c78++c79++c80++c83++c84++c87++c88++c91++c94++c95++c98++c99
def S31 (w:World)(os:OsState):SharedT:=⟨mkT 12 w.params L31,1229,JS,⟨[]⟩,dr,2487,os⟩
def L32:List (Params→Obj):=JKj++c12++c19++c20++c23++c24++c25++c28++c29++c34++c35++c38++c39++c42++c45++c46++c49++c52++c55++c58++c61++c62++c63++c66++c71++c72++c75++c78++c79++c80++c83++c84++c87++c88++c91++c94++c95++c98++Jvv++Juo++JJD
def S32 (w:World)(os:OsState):SharedT:=⟨mkT 12 w.params L32,1304,JS,⟨[]⟩,dr,2613,os⟩
def L33:List (Params→Obj):=JDH++c12++c19++c20++c23++c24++c25++c28++c29++c34++c35++c38++c39++c42++c45++c46++c49++c52++c55++c58++c61++c62++c63++c66++c71++c72++c75++c78++c79++c80++c83++c84++c87++c88++c91++c94++c95++c98++Jvv++Juo++JF3++JAJ
def S33 (w:World)(os:OsState):SharedT:=⟨mkT 12 w.params L33,1323,JS,⟨[]⟩,dr,2660,os⟩
def L34:List (Params→Obj):=JDH++c12++c19++c20++c23++c24++c25++c28++c29++c34++c35++c38++c39++c42++c45++c46++c49++c52++c55++c58++c61++c62++c63++c66++c71++c72++c75++c78++c79++c80++c83++c84++c87++c88++c91++c94++c95++c98++Jvv++Juo++JF3++JAJ
def S34 (w:World)(os:OsState):SharedT:=⟨mkT 12 w.params L34,1323,JS,⟨[]⟩,dr,2660,os⟩
noncomputable abbrev pw:Program:=PySem.Challenge.pw_xw0093_01
noncomputable def body:List Stmt:=behindTheImports pw
noncomputable def Jv:Env:={ scope:=pw.main.scope,locals:=mainNs,globals:=mainNs,cells:=[],code:=.ref 13,frame:=some 14 }
def Jc:Code:=.body body Jv
noncomputable abbrev Jao:Pos:=⟨0,0,0,0⟩
noncomputable abbrev fr0:List Frame:=[topFrame Jao]
noncomputable abbrev Ju:Option Value:=some (.ref 6)
def Jva:List Stmt:=(body.drop 0).take 7
def Jry:List Stmt:=(body.drop 7).take 1
def JoW:List Stmt:=(body.drop 8).take 1
def JmC:List Stmt:=(body.drop 9).take 1
def JkT:List Stmt:=(body.drop 10).take 21
def Jf6:List Stmt:=(body.drop 31).take 12
def Jfe:List Stmt:=(body.drop 43).take 3
def JgR:List Stmt:=(body.drop 46).take 4
def JfL:List Stmt:=(body.drop 50).take 13
def Jff:List Stmt:=(body.drop 63).take 23
def Jcg:List Stmt:=(body.drop 86).take 4
def JbZ:List Stmt:=(body.drop 90).take 6
def JbG:List Stmt:=(body.drop 96).take 18
def Ja4:List Stmt:=(body.drop 114).take 5
def Jbm:List Stmt:=(body.drop 119).take 13
def Jbb:List Stmt:=(body.drop 132).take 2
def JaX:List Stmt:=(body.drop 134).take 10
def JaS:List Stmt:=(body.drop 144).take 6
def JaJ:List Stmt:=(body.drop 150).take 1
def JaF:List Stmt:=(body.drop 151).take 1
def JaA:List Stmt:=(body.drop 152).take 1
def Jax:List Stmt:=(body.drop 153).take 1
def Jas:List Stmt:=(body.drop 154).take 1
def Jak:List Stmt:=(body.drop 155).take 1
def Jaf:List Stmt:=(body.drop 156).take 1
def J8:List Stmt:=(body.drop 157).take 22
def J6:List Stmt:=(body.drop 179).take 12
def J3:List Stmt:=(body.drop 191).take 3
def J1:List Stmt:=(body.drop 194).take 1
def J0:List Stmt:=(body.drop 195).take 5
def JZ:List Stmt:=(body.drop 200).take 11
def JV:List Stmt:=(body.drop 211).take 3
theorem pc0 (w:World)(os:OsState):PySem.W.Fast.tw10110043849684766642 PySem.W.Fast.tw14364793385576792824 pw w 11 Ju 1 305 (S1 w os) (piecesOf Jva Jv Jc ⟨0,0,0,0⟩ fr0)=some (.next,S2 w os,Jc,⟨9,0,13,20⟩):=by kernel_rfl
theorem pc1 (w:World)(os:OsState):PySem.W.Fast.tw10110043849684766642 PySem.W.Fast.tw14364793385576792824 pw w 11 Ju 1 214 (S2 w os) (piecesOf Jry Jv Jc ⟨9,0,13,20⟩ fr0)=some (.next,S3 w os,Jc,⟨14,0,15,8⟩):=by kernel_rfl
theorem pc2 (w:World)(os:OsState):PySem.W.Fast.tw10110043849684766642 PySem.W.Fast.tw14364793385576792824 pw w 11 Ju 1 214 (S3 w os) (piecesOf JoW Jv Jc ⟨14,0,15,8⟩ fr0)=some (.next,S4 w os,Jc,⟨16,0,17,8⟩):=by kernel_rfl
theorem pc3 (w:World)(os:OsState):PySem.W.Fast.tw10110043849684766642 PySem.W.Fast.tw14364793385576792824 pw w 11 Ju 1 214 (S4 w os) (piecesOf JmC Jv Jc ⟨16,0,17,8⟩ fr0)=some (.next,S5 w os,Jc,⟨18,0,19,8⟩):=by kernel_rfl
theorem pc4 (w:World)(os:OsState):PySem.W.Fast.tw10110043849684766642 PySem.W.Fast.tw14364793385576792824 pw w 11 Ju 1 394 (S5 w os) (piecesOf JkT Jv Jc ⟨18,0,19,8⟩ fr0)=some (.next,S6 w os,Jc,⟨41,0,41,7⟩):=by kernel_rfl
theorem JHY (w:World)(os:OsState):PySem.W.Fast.tw10110043849684766642 PySem.W.Fast.tw14364793385576792824 pw (w.withFollow "special-get-raises" false) 11 Ju 1 306 (S6 (w.withFollow "special-get-raises" false) os) (piecesOf Jf6 Jv Jc ⟨41,0,41,7⟩ fr0)=some (.next,S7 (w.withFollow "special-get-raises" false) os,Jc,⟨53,0,53,8⟩):=by kernel_rfl
theorem JIZ (w:World)(os:OsState):PySem.W.Fast.tw10110043849684766642 PySem.W.Fast.tw14364793385576792824 pw (w.withFollow "special-get-raises" true) 11 Ju 1 306 (S6 (w.withFollow "special-get-raises" true) os) (piecesOf Jf6 Jv Jc ⟨41,0,41,7⟩ fr0)=some (.next,S7 (w.withFollow "special-get-raises" true) os,Jc,⟨53,0,53,8⟩):=by kernel_rfl
theorem JMx (w:World)(os:OsState):PySem.W.Fast.tw10110043849684766642 PySem.W.Fast.tw14364793385576792824 pw (w.withFollow "special-get-raises" false) 11 Ju 1 225 (S7 (w.withFollow "special-get-raises" false) os) (piecesOf Jfe Jv Jc ⟨53,0,53,8⟩ fr0)=some (.next,S8 (w.withFollow "special-get-raises" false) os,Jc,⟨56,0,56,12⟩):=by kernel_rfl
theorem JH4 (w:World)(os:OsState):PySem.W.Fast.tw10110043849684766642 PySem.W.Fast.tw14364793385576792824 pw (w.withFollow "special-get-raises" true) 11 Ju 1 225 (S7 (w.withFollow "special-get-raises" true) os) (piecesOf Jfe Jv Jc ⟨53,0,53,8⟩ fr0)=some (.next,S8 (w.withFollow "special-get-raises" true) os,Jc,⟨56,0,56,12⟩):=by kernel_rfl
theorem pc7 (w:World)(os:OsState):PySem.W.Fast.tw10110043849684766642 PySem.W.Fast.tw14364793385576792824 pw w 11 Ju 1 387 (S8 w os) (piecesOf JgR Jv Jc ⟨56,0,56,12⟩ fr0)=some (.next,S9 w os,Jc,⟨119,0,124,12⟩):=by kernel_rfl
theorem pc8 (w:World)(os:OsState):PySem.W.Fast.tw10110043849684766642 PySem.W.Fast.tw14364793385576792824 pw w 11 Ju 1 400 (S9 w os) (piecesOf JfL Jv Jc ⟨119,0,124,12⟩ fr0)=some (.next,S10 w os,Jc,⟨195,0,198,34⟩):=by kernel_rfl
theorem pc9 (w:World)(os:OsState):PySem.W.Fast.tw10110043849684766642 PySem.W.Fast.tw14364793385576792824 pw w 11 Ju 1 393 (S10 w os) (piecesOf Jff Jv Jc ⟨195,0,198,34⟩ fr0)=some (.next,S11 w os,Jc,⟨267,0,267,8⟩):=by kernel_rfl
theorem JLN (w:World)(os:OsState):PySem.W.Fast.tw10110043849684766642 PySem.W.Fast.tw14364793385576792824 pw w 11 Ju 1 261 (S11 w os) (piecesOf Jcg Jv Jc ⟨267,0,267,8⟩ fr0)=some (.next,S12 w os,Jc,⟨271,0,280,25⟩):=by kernel_rfl
theorem JHJ (w:World)(os:OsState):PySem.W.Fast.tw10110043849684766642 PySem.W.Fast.tw14364793385576792824 pw w 11 Ju 1 390 (S12 w os) (piecesOf JbZ Jv Jc ⟨271,0,280,25⟩ fr0)=some (.next,S13 w os,Jc,⟨315,0,333,48⟩):=by kernel_rfl
theorem JJl (w:World)(os:OsState):PySem.W.Fast.tw10110043849684766642 PySem.W.Fast.tw14364793385576792824 pw w 11 Ju 1 351 (S13 w os) (piecesOf JbG Jv Jc ⟨315,0,333,48⟩ fr0)=some (.next,S14 w os,Jc,⟨403,0,403,8⟩):=by kernel_rfl
theorem Jz1 (w:World)(os:OsState):PySem.W.Fast.tw10110043849684766642 PySem.W.Fast.tw14364793385576792824 pw (w.withFollow "special-get-raises" false) 11 Ju 1 391 (S14 (w.withFollow "special-get-raises" false) os) (piecesOf Ja4 Jv Jc ⟨403,0,403,8⟩ fr0)=some (.next,S15 (w.withFollow "special-get-raises" false) os,Jc,⟨420,0,423,83⟩):=by kernel_rfl
theorem JxZ (w:World)(os:OsState):PySem.W.Fast.tw10110043849684766642 PySem.W.Fast.tw14364793385576792824 pw (w.withFollow "special-get-raises" true) 11 Ju 1 391 (S14 (w.withFollow "special-get-raises" true) os) (piecesOf Ja4 Jv Jc ⟨403,0,403,8⟩ fr0)=some (.next,S15 (w.withFollow "special-get-raises" true) os,Jc,⟨420,0,423,83⟩):=by kernel_rfl
theorem JNp (w:World)(os:OsState):PySem.W.Fast.tw10110043849684766642 PySem.W.Fast.tw14364793385576792824 pw w 11 Ju 1 398 (S15 w os) (piecesOf Jbm Jv Jc ⟨420,0,423,83⟩ fr0)=some (.next,S16 w os,Jc,⟨520,0,520,6⟩):=by kernel_rfl
theorem JMZ (w:World)(os:OsState):PySem.W.Fast.tw10110043849684766642 PySem.W.Fast.tw14364793385576792824 pw w 11 Ju 1 241 (S16 w os) (piecesOf Jbb Jv Jc ⟨520,0,520,6⟩ fr0)=some (.next,S17 w os,Jc,⟨522,0,530,20⟩):=by kernel_rfl
theorem JKM (w:World)(os:OsState):PySem.W.Fast.tw10110043849684766642 PySem.W.Fast.tw14364793385576792824 pw w 11 Ju 1 397 (S17 w os) (piecesOf JaX Jv Jc ⟨522,0,530,20⟩ fr0)=some (.next,S18 w os,Jc,⟨553,0,553,6⟩):=by kernel_rfl
theorem JHM (w:World)(os:OsState):PySem.W.Fast.tw10110043849684766642 PySem.W.Fast.tw14364793385576792824 pw w 11 Ju 1 277 (S18 w os) (piecesOf JaS Jv Jc ⟨553,0,553,6⟩ fr0)=some (.next,S19 w os,Jc,⟨570,0,570,10⟩):=by kernel_rfl
theorem JHq (w:World)(os:OsState):PySem.W.Fast.tw10110043849684766642 PySem.W.Fast.tw14364793385576792824 pw w 11 Ju 1 259 (S19 w os) (piecesOf JaJ Jv Jc ⟨570,0,570,10⟩ fr0)=some (.next,S20 w os,Jc,⟨571,0,577,16⟩):=by kernel_rfl
theorem JIE (w:World)(os:OsState):PySem.W.Fast.tw10110043849684766642 PySem.W.Fast.tw14364793385576792824 pw w 11 Ju 1 597 (S20 w os) (piecesOf JaF Jv Jc ⟨571,0,577,16⟩ fr0)=some (.next,S21 w os,Jc,⟨578,0,617,16⟩):=by kernel_rfl
theorem JJL (w:World)(os:OsState):PySem.W.Fast.tw10110043849684766642 PySem.W.Fast.tw14364793385576792824 pw w 11 Ju 1 225 (S21 w os) (piecesOf JaA Jv Jc ⟨578,0,617,16⟩ fr0)=some (.next,S22 w os,Jc,⟨618,0,621,51⟩):=by kernel_rfl
theorem JJ7 (w:World)(os:OsState):PySem.W.Fast.tw10110043849684766642 PySem.W.Fast.tw14364793385576792824 pw w 11 Ju 1 224 (S22 w os) (piecesOf Jax Jv Jc ⟨618,0,621,51⟩ fr0)=some (.next,S23 w os,Jc,⟨622,0,625,16⟩):=by kernel_rfl
theorem JMB (w:World)(os:OsState):PySem.W.Fast.tw10110043849684766642 PySem.W.Fast.tw14364793385576792824 pw w 11 Ju 1 368 (S23 w os) (piecesOf Jas Jv Jc ⟨622,0,625,16⟩ fr0)=some (.next,S24 w os,Jc,⟨626,0,653,17⟩):=by kernel_rfl
theorem JMs (w:World)(os:OsState):PySem.W.Fast.tw10110043849684766642 PySem.W.Fast.tw14364793385576792824 pw w 11 Ju 1 369 (S24 w os) (piecesOf Jak Jv Jc ⟨626,0,653,17⟩ fr0)=some (.next,S25 w os,Jc,⟨654,0,685,62⟩):=by kernel_rfl
theorem JHh (w:World)(os:OsState):PySem.W.Fast.tw10110043849684766642 PySem.W.Fast.tw14364793385576792824 pw w 11 Ju 1 656 (S25 w os) (piecesOf Jaf Jv Jc ⟨654,0,685,62⟩ fr0)=some (.next,S26 w os,Jc,⟨686,0,755,17⟩):=by kernel_rfl
theorem JIo (w:World)(os:OsState):PySem.W.Fast.tw10110043849684766642 PySem.W.Fast.tw14364793385576792824 pw w 11 Ju 1 369 (S26 w os) (piecesOf J8 Jv Jc ⟨686,0,755,17⟩ fr0)=some (.next,S27 w os,Jc,⟨805,0,818,16⟩):=by kernel_rfl
theorem JI0 (w:World)(os:OsState):PySem.W.Fast.tw10110043849684766642 PySem.W.Fast.tw14364793385576792824 pw w 11 Ju 1 392 (S27 w os) (piecesOf J6 Jv Jc ⟨805,0,818,16⟩ fr0)=some (.next,S28 w os,Jc,⟨917,0,922,56⟩):=by kernel_rfl
theorem JKd (w:World)(os:OsState):PySem.W.Fast.tw10110043849684766642 PySem.W.Fast.tw14364793385576792824 pw w 11 Ju 1 87 (S28 w os) (piecesOf J3 Jv Jc ⟨917,0,922,56⟩ fr0)=some (.next,S29 w os,Jc,⟨958,0,958,8⟩):=by kernel_rfl
theorem JH2 (w:World)(os:OsState):PySem.W.Fast.tw10110043849684766642 PySem.W.Fast.tw14364793385576792824 pw w 11 Ju 1 423 (S29 w os) (piecesOf J1 Jv Jc ⟨958,0,958,8⟩ fr0)=some (.next,S30 w os,Jc,⟨959,0,988,17⟩):=by kernel_rfl
theorem JG3 (w:World)(os:OsState):PySem.W.Fast.tw10110043849684766642 PySem.W.Fast.tw14364793385576792824 pw w 11 Ju 1 388 (S30 w os) (piecesOf J0 Jv Jc ⟨959,0,988,17⟩ fr0)=some (.next,S31 w os,Jc,⟨998,0,1016,161⟩):=by kernel_rfl
theorem JHf (w:World)(os:OsState):PySem.W.Fast.tw10110043849684766642 PySem.W.Fast.tw14364793385576792824 pw w 11 Ju 1 367 (S31 w os) (piecesOf JZ Jv Jc ⟨998,0,1016,161⟩ fr0)=some (.next,S32 w os,Jc,⟨1106,0,1114,23⟩):=by kernel_rfl
theorem JK7 (w:World)(os:OsState):PySem.W.Fast.tw10110043849684766642 PySem.W.Fast.tw14364793385576792824 pw w 11 Ju 1 112 (S32 w os) (piecesOf JV Jv Jc ⟨1106,0,1114,23⟩ fr0)=some (.next,S33 w os,Jc,⟨1173,0,1197,15⟩):=by kernel_rfl
theorem seg {p:Program}{w:World}{m:Nat}{a:Option Value}{k n:Nat}{x y:SharedT}{h:Thread}{f:Flow}{c:Code}{q:Pos}(e:PySem.W.Fast.tw10110043849684766642 PySem.W.Fast.tw14364793385576792824 p w m a k n x h=some (f,y,c,q)):segRun treeTable p w m a k n x.abs h=some (f,y.abs,c,q):=by
 rw[← PySem.W.Fast.te10110043849684766642,← PySem.W.Fast.te14364793385576792824] at e;exact segRun_of e
theorem JzW (w:World)(os:OsState):PySem.W.Fast.tw15667345088766844465 PySem.W.Fast.tw14364793385576792824 pw w 11 Ju 12 ⟨boot_heap w.params,⟨[]⟩,boot_drawn,boot_toks,os⟩ (topStub pw)=some ((S0 w os).abs,⟨PySem.W.Fast.tw11892475500146522536 PySem.W.Fast.tw14364793385576792824 Jc,Jc,Jao,fr0⟩):=by kernel_rfl
theorem JB3 (w:World)(os:OsState):PySem.W.Fast.tw14374325043358763698 PySem.W.Fast.tw14364793385576792824 pw w 11 Ju 1 1 (S0 w os).abs (blockOf body Jv Jc Jao fr0)=some (.next,(S1 w os).abs,Jc,Jao):=by kernel_rfl
theorem Jxs (w:World)(os:OsState):PySem.W.Fast.tw14082659384304107361 PySem.W.Fast.tw14364793385576792824 pw w 11 Ju 2 (S33 w os).abs ⟨doneF .next,Jc,⟨1173,0,1197,15⟩,fr0⟩=some (S34 w os).abs:=by kernel_rfl
theorem JIv (w:World)(os:OsState):topRun treeTable pw w 11 Ju 2 (S33 w os).abs (restOf [] Jv Jc ⟨1173,0,1197,15⟩ [topFrame Jao])=some (S34 w os).abs:=by
 have h:=Jxs w os;rw[← PySem.W.Fast.te14082659384304107361,← PySem.W.Fast.te14364793385576792824] at h;exact piece_nil h
theorem JLp (w:World)(os:OsState):topRun treeTable pw w 11 Ju 114 (S32 w os).abs (restOf (JV++[]) Jv Jc ⟨1106,0,1114,23⟩ [topFrame Jao])=some (S34 w os).abs:=piece_app (n:=112) (N:=2) (seg (JK7 w os)) (JIv w os)
theorem JKN (w:World)(os:OsState):topRun treeTable pw w 11 Ju 481 (S31 w os).abs (restOf (JZ++(JV++[])) Jv Jc ⟨998,0,1016,161⟩ [topFrame Jao])=some (S34 w os).abs:=piece_app (n:=367) (N:=114) (seg (JHf w os)) (JLp w os)
theorem JLQ (w:World)(os:OsState):topRun treeTable pw w 11 Ju 869 (S30 w os).abs (restOf (J0++(JZ++(JV++[]))) Jv Jc ⟨959,0,988,17⟩ [topFrame Jao])=some (S34 w os).abs:=piece_app (n:=388) (N:=481) (seg (JG3 w os)) (JKN w os)
theorem JJv (w:World)(os:OsState):topRun treeTable pw w 11 Ju 1292 (S29 w os).abs (restOf (J1++(J0++(JZ++(JV++[])))) Jv Jc ⟨958,0,958,8⟩ [topFrame Jao])=some (S34 w os).abs:=piece_app (n:=423) (N:=869) (seg (JH2 w os)) (JLQ w os)
theorem JM4 (w:World)(os:OsState):topRun treeTable pw w 11 Ju 1379 (S28 w os).abs (restOf (J3++(J1++(J0++(JZ++(JV++[]))))) Jv Jc ⟨917,0,922,56⟩ [topFrame Jao])=some (S34 w os).abs:=piece_app (n:=87) (N:=1292) (seg (JKd w os)) (JJv w os)
theorem JKo (w:World)(os:OsState):topRun treeTable pw w 11 Ju 1771 (S27 w os).abs (restOf (J6++(J3++(J1++(J0++(JZ++(JV++[])))))) Jv Jc ⟨805,0,818,16⟩ [topFrame Jao])=some (S34 w os).abs:=piece_app (n:=392) (N:=1379) (seg (JI0 w os)) (JM4 w os)
theorem JHD (w:World)(os:OsState):topRun treeTable pw w 11 Ju 2140 (S26 w os).abs (restOf (J8++(J6++(J3++(J1++(J0++(JZ++(JV++[]))))))) Jv Jc ⟨686,0,755,17⟩ [topFrame Jao])=some (S34 w os).abs:=piece_app (n:=369) (N:=1771) (seg (JIo w os)) (JKo w os)
theorem JKs (w:World)(os:OsState):topRun treeTable pw w 11 Ju 2796 (S25 w os).abs (restOf (Jaf++(J8++(J6++(J3++(J1++(J0++(JZ++(JV++[])))))))) Jv Jc ⟨654,0,685,62⟩ [topFrame Jao])=some (S34 w os).abs:=piece_app (n:=656) (N:=2140) (seg (JHh w os)) (JHD w os)
theorem JKW (w:World)(os:OsState):topRun treeTable pw w 11 Ju 3165 (S24 w os).abs (restOf (Jak++(Jaf++(J8++(J6++(J3++(J1++(J0++(JZ++(JV++[]))))))))) Jv Jc ⟨626,0,653,17⟩ [topFrame Jao])=some (S34 w os).abs:=piece_app (n:=369) (N:=2796) (seg (JMs w os)) (JKs w os)
theorem JMn (w:World)(os:OsState):topRun treeTable pw w 11 Ju 3533 (S23 w os).abs (restOf (Jas++(Jak++(Jaf++(J8++(J6++(J3++(J1++(J0++(JZ++(JV++[])))))))))) Jv Jc ⟨622,0,625,16⟩ [topFrame Jao])=some (S34 w os).abs:=piece_app (n:=368) (N:=3165) (seg (JMB w os)) (JKW w os)
theorem JLj (w:World)(os:OsState):topRun treeTable pw w 11 Ju 3757 (S22 w os).abs (restOf (Jax++(Jas++(Jak++(Jaf++(J8++(J6++(J3++(J1++(J0++(JZ++(JV++[]))))))))))) Jv Jc ⟨618,0,621,51⟩ [topFrame Jao])=some (S34 w os).abs:=piece_app (n:=224) (N:=3533) (seg (JJ7 w os)) (JMn w os)
theorem JJZ (w:World)(os:OsState):topRun treeTable pw w 11 Ju 3982 (S21 w os).abs (restOf (JaA++(Jax++(Jas++(Jak++(Jaf++(J8++(J6++(J3++(J1++(J0++(JZ++(JV++[])))))))))))) Jv Jc ⟨578,0,617,16⟩ [topFrame Jao])=some (S34 w os).abs:=piece_app (n:=225) (N:=3757) (seg (JJL w os)) (JLj w os)
theorem JJJ (w:World)(os:OsState):topRun treeTable pw w 11 Ju 4579 (S20 w os).abs (restOf (JaF++(JaA++(Jax++(Jas++(Jak++(Jaf++(J8++(J6++(J3++(J1++(J0++(JZ++(JV++[]))))))))))))) Jv Jc ⟨571,0,577,16⟩ [topFrame Jao])=some (S34 w os).abs:=piece_app (n:=597) (N:=3982) (seg (JIE w os)) (JJZ w os)
theorem JKb (w:World)(os:OsState):topRun treeTable pw w 11 Ju 4838 (S19 w os).abs (restOf (JaJ++(JaF++(JaA++(Jax++(Jas++(Jak++(Jaf++(J8++(J6++(J3++(J1++(J0++(JZ++(JV++[])))))))))))))) Jv Jc ⟨570,0,570,10⟩ [topFrame Jao])=some (S34 w os).abs:=piece_app (n:=259) (N:=4579) (seg (JHq w os)) (JJJ w os)
theorem JM5 (w:World)(os:OsState):topRun treeTable pw w 11 Ju 5115 (S18 w os).abs (restOf (JaS++(JaJ++(JaF++(JaA++(Jax++(Jas++(Jak++(Jaf++(J8++(J6++(J3++(J1++(J0++(JZ++(JV++[]))))))))))))))) Jv Jc ⟨553,0,553,6⟩ [topFrame Jao])=some (S34 w os).abs:=piece_app (n:=277) (N:=4838) (seg (JHM w os)) (JKb w os)
theorem JGX (w:World)(os:OsState):topRun treeTable pw w 11 Ju 5512 (S17 w os).abs (restOf (JaX++(JaS++(JaJ++(JaF++(JaA++(Jax++(Jas++(Jak++(Jaf++(J8++(J6++(J3++(J1++(J0++(JZ++(JV++[])))))))))))))))) Jv Jc ⟨522,0,530,20⟩ [topFrame Jao])=some (S34 w os).abs:=piece_app (n:=397) (N:=5115) (seg (JKM w os)) (JM5 w os)
theorem JKg (w:World)(os:OsState):topRun treeTable pw w 11 Ju 5753 (S16 w os).abs (restOf (Jbb++(JaX++(JaS++(JaJ++(JaF++(JaA++(Jax++(Jas++(Jak++(Jaf++(J8++(J6++(J3++(J1++(J0++(JZ++(JV++[]))))))))))))))))) Jv Jc ⟨520,0,520,6⟩ [topFrame Jao])=some (S34 w os).abs:=piece_app (n:=241) (N:=5512) (seg (JMZ w os)) (JGX w os)
theorem JMU (w:World)(os:OsState):topRun treeTable pw w 11 Ju 6151 (S15 w os).abs (restOf (Jbm++(Jbb++(JaX++(JaS++(JaJ++(JaF++(JaA++(Jax++(Jas++(Jak++(Jaf++(J8++(J6++(J3++(J1++(J0++(JZ++(JV++[])))))))))))))))))) Jv Jc ⟨420,0,423,83⟩ [topFrame Jao])=some (S34 w os).abs:=piece_app (n:=398) (N:=5753) (seg (JNp w os)) (JKg w os)
theorem JLU (w:World):∀ os,PySem.W.Fast.tw10110043849684766642 PySem.W.Fast.tw14364793385576792824 pw w 11 Ju 1 391 (S14 w os) (piecesOf Ja4 Jv Jc ⟨403,0,403,8⟩ fr0)=some (.next,S15 w os,Jc,⟨420,0,423,83⟩) :=
 byRow2 "special-get-raises" (P:=fun w=>∀ os,PySem.W.Fast.tw10110043849684766642 PySem.W.Fast.tw14364793385576792824 pw w 11 Ju 1 391 (S14 w os) (piecesOf Ja4 Jv Jc ⟨403,0,403,8⟩ fr0)=some (.next,S15 w os,Jc,⟨420,0,423,83⟩)) Jz1 JxZ w
theorem JIe (w:World)(os:OsState):topRun treeTable pw w 11 Ju 6542 (S14 w os).abs (restOf (Ja4++(Jbm++(Jbb++(JaX++(JaS++(JaJ++(JaF++(JaA++(Jax++(Jas++(Jak++(Jaf++(J8++(J6++(J3++(J1++(J0++(JZ++(JV++[]))))))))))))))))))) Jv Jc ⟨403,0,403,8⟩ [topFrame Jao])=some (S34 w os).abs:=piece_app (n:=391) (N:=6151) (seg (JLU w os)) (JMU w os)
theorem JHA (w:World)(os:OsState):topRun treeTable pw w 11 Ju 6893 (S13 w os).abs (restOf (JbG++(Ja4++(Jbm++(Jbb++(JaX++(JaS++(JaJ++(JaF++(JaA++(Jax++(Jas++(Jak++(Jaf++(J8++(J6++(J3++(J1++(J0++(JZ++(JV++[])))))))))))))))))))) Jv Jc ⟨315,0,333,48⟩ [topFrame Jao])=some (S34 w os).abs:=piece_app (n:=351) (N:=6542) (seg (JJl w os)) (JIe w os)
theorem JHF (w:World)(os:OsState):topRun treeTable pw w 11 Ju 7283 (S12 w os).abs (restOf (JbZ++(JbG++(Ja4++(Jbm++(Jbb++(JaX++(JaS++(JaJ++(JaF++(JaA++(Jax++(Jas++(Jak++(Jaf++(J8++(J6++(J3++(J1++(J0++(JZ++(JV++[]))))))))))))))))))))) Jv Jc ⟨271,0,280,25⟩ [topFrame Jao])=some (S34 w os).abs:=piece_app (n:=390) (N:=6893) (seg (JHJ w os)) (JHA w os)
theorem JLc (w:World)(os:OsState):topRun treeTable pw w 11 Ju 7544 (S11 w os).abs (restOf (Jcg++(JbZ++(JbG++(Ja4++(Jbm++(Jbb++(JaX++(JaS++(JaJ++(JaF++(JaA++(Jax++(Jas++(Jak++(Jaf++(J8++(J6++(J3++(J1++(J0++(JZ++(JV++[])))))))))))))))))))))) Jv Jc ⟨267,0,267,8⟩ [topFrame Jao])=some (S34 w os).abs:=piece_app (n:=261) (N:=7283) (seg (JLN w os)) (JHF w os)
theorem rn9 (w:World)(os:OsState):topRun treeTable pw w 11 Ju 7937 (S10 w os).abs (restOf (Jff++(Jcg++(JbZ++(JbG++(Ja4++(Jbm++(Jbb++(JaX++(JaS++(JaJ++(JaF++(JaA++(Jax++(Jas++(Jak++(Jaf++(J8++(J6++(J3++(J1++(J0++(JZ++(JV++[]))))))))))))))))))))))) Jv Jc ⟨195,0,198,34⟩ [topFrame Jao])=some (S34 w os).abs:=piece_app (n:=393) (N:=7544) (seg (pc9 w os)) (JLc w os)
theorem rn8 (w:World)(os:OsState):topRun treeTable pw w 11 Ju 8337 (S9 w os).abs (restOf (JfL++(Jff++(Jcg++(JbZ++(JbG++(Ja4++(Jbm++(Jbb++(JaX++(JaS++(JaJ++(JaF++(JaA++(Jax++(Jas++(Jak++(Jaf++(J8++(J6++(J3++(J1++(J0++(JZ++(JV++[])))))))))))))))))))))))) Jv Jc ⟨119,0,124,12⟩ [topFrame Jao])=some (S34 w os).abs:=piece_app (n:=400) (N:=7937) (seg (pc8 w os)) (rn9 w os)
theorem rn7 (w:World)(os:OsState):topRun treeTable pw w 11 Ju 8724 (S8 w os).abs (restOf (JgR++(JfL++(Jff++(Jcg++(JbZ++(JbG++(Ja4++(Jbm++(Jbb++(JaX++(JaS++(JaJ++(JaF++(JaA++(Jax++(Jas++(Jak++(Jaf++(J8++(J6++(J3++(J1++(J0++(JZ++(JV++[]))))))))))))))))))))))))) Jv Jc ⟨56,0,56,12⟩ [topFrame Jao])=some (S34 w os).abs:=piece_app (n:=387) (N:=8337) (seg (pc7 w os)) (rn8 w os)
theorem pw6 (w:World):∀ os,PySem.W.Fast.tw10110043849684766642 PySem.W.Fast.tw14364793385576792824 pw w 11 Ju 1 225 (S7 w os) (piecesOf Jfe Jv Jc ⟨53,0,53,8⟩ fr0)=some (.next,S8 w os,Jc,⟨56,0,56,12⟩) :=
 byRow2 "special-get-raises" (P:=fun w=>∀ os,PySem.W.Fast.tw10110043849684766642 PySem.W.Fast.tw14364793385576792824 pw w 11 Ju 1 225 (S7 w os) (piecesOf Jfe Jv Jc ⟨53,0,53,8⟩ fr0)=some (.next,S8 w os,Jc,⟨56,0,56,12⟩)) JMx JH4 w
theorem rn6 (w:World)(os:OsState):topRun treeTable pw w 11 Ju 8949 (S7 w os).abs (restOf (Jfe++(JgR++(JfL++(Jff++(Jcg++(JbZ++(JbG++(Ja4++(Jbm++(Jbb++(JaX++(JaS++(JaJ++(JaF++(JaA++(Jax++(Jas++(Jak++(Jaf++(J8++(J6++(J3++(J1++(J0++(JZ++(JV++[])))))))))))))))))))))))))) Jv Jc ⟨53,0,53,8⟩ [topFrame Jao])=some (S34 w os).abs:=piece_app (n:=225) (N:=8724) (seg (pw6 w os)) (rn7 w os)
theorem pw5 (w:World):∀ os,PySem.W.Fast.tw10110043849684766642 PySem.W.Fast.tw14364793385576792824 pw w 11 Ju 1 306 (S6 w os) (piecesOf Jf6 Jv Jc ⟨41,0,41,7⟩ fr0)=some (.next,S7 w os,Jc,⟨53,0,53,8⟩) :=
 byRow2 "special-get-raises" (P:=fun w=>∀ os,PySem.W.Fast.tw10110043849684766642 PySem.W.Fast.tw14364793385576792824 pw w 11 Ju 1 306 (S6 w os) (piecesOf Jf6 Jv Jc ⟨41,0,41,7⟩ fr0)=some (.next,S7 w os,Jc,⟨53,0,53,8⟩)) JHY JIZ w
theorem rn5 (w:World)(os:OsState):topRun treeTable pw w 11 Ju 9255 (S6 w os).abs (restOf (Jf6++(Jfe++(JgR++(JfL++(Jff++(Jcg++(JbZ++(JbG++(Ja4++(Jbm++(Jbb++(JaX++(JaS++(JaJ++(JaF++(JaA++(Jax++(Jas++(Jak++(Jaf++(J8++(J6++(J3++(J1++(J0++(JZ++(JV++[]))))))))))))))))))))))))))) Jv Jc ⟨41,0,41,7⟩ [topFrame Jao])=some (S34 w os).abs:=piece_app (n:=306) (N:=8949) (seg (pw5 w os)) (rn6 w os)
theorem rn4 (w:World)(os:OsState):topRun treeTable pw w 11 Ju 9649 (S5 w os).abs (restOf (JkT++(Jf6++(Jfe++(JgR++(JfL++(Jff++(Jcg++(JbZ++(JbG++(Ja4++(Jbm++(Jbb++(JaX++(JaS++(JaJ++(JaF++(JaA++(Jax++(Jas++(Jak++(Jaf++(J8++(J6++(J3++(J1++(J0++(JZ++(JV++[])))))))))))))))))))))))))))) Jv Jc ⟨18,0,19,8⟩ [topFrame Jao])=some (S34 w os).abs:=piece_app (n:=394) (N:=9255) (seg (pc4 w os)) (rn5 w os)
theorem rn3 (w:World)(os:OsState):topRun treeTable pw w 11 Ju 9863 (S4 w os).abs (restOf (JmC++(JkT++(Jf6++(Jfe++(JgR++(JfL++(Jff++(Jcg++(JbZ++(JbG++(Ja4++(Jbm++(Jbb++(JaX++(JaS++(JaJ++(JaF++(JaA++(Jax++(Jas++(Jak++(Jaf++(J8++(J6++(J3++(J1++(J0++(JZ++(JV++[]))))))))))))))))))))))))))))) Jv Jc ⟨16,0,17,8⟩ [topFrame Jao])=some (S34 w os).abs:=piece_app (n:=214) (N:=9649) (seg (pc3 w os)) (rn4 w os)
theorem rn2 (w:World)(os:OsState):topRun treeTable pw w 11 Ju 10077 (S3 w os).abs (restOf (JoW++(JmC++(JkT++(Jf6++(Jfe++(JgR++(JfL++(Jff++(Jcg++(JbZ++(JbG++(Ja4++(Jbm++(Jbb++(JaX++(JaS++(JaJ++(JaF++(JaA++(Jax++(Jas++(Jak++(Jaf++(J8++(J6++(J3++(J1++(J0++(JZ++(JV++[])))))))))))))))))))))))))))))) Jv Jc ⟨14,0,15,8⟩ [topFrame Jao])=some (S34 w os).abs:=piece_app (n:=214) (N:=9863) (seg (pc2 w os)) (rn3 w os)
theorem rn1 (w:World)(os:OsState):topRun treeTable pw w 11 Ju 10291 (S2 w os).abs (restOf (Jry++(JoW++(JmC++(JkT++(Jf6++(Jfe++(JgR++(JfL++(Jff++(Jcg++(JbZ++(JbG++(Ja4++(Jbm++(Jbb++(JaX++(JaS++(JaJ++(JaF++(JaA++(Jax++(Jas++(Jak++(Jaf++(J8++(J6++(J3++(J1++(J0++(JZ++(JV++[]))))))))))))))))))))))))))))))) Jv Jc ⟨9,0,13,20⟩ [topFrame Jao])=some (S34 w os).abs:=piece_app (n:=214) (N:=10077) (seg (pc1 w os)) (rn2 w os)
theorem rn0 (w:World)(os:OsState):topRun treeTable pw w 11 Ju 10596 (S1 w os).abs (restOf (Jva++(Jry++(JoW++(JmC++(JkT++(Jf6++(Jfe++(JgR++(JfL++(Jff++(Jcg++(JbZ++(JbG++(Ja4++(Jbm++(Jbb++(JaX++(JaS++(JaJ++(JaF++(JaA++(Jax++(Jas++(Jak++(Jaf++(J8++(J6++(J3++(J1++(J0++(JZ++(JV++[])))))))))))))))))))))))))))))))) Jv Jc ⟨0,0,0,0⟩ [topFrame Jao])=some (S34 w os).abs:=piece_app (n:=305) (N:=10291) (seg (pc0 w os)) (rn1 w os)
theorem Jrd:body=(Jva++(Jry++(JoW++(JmC++(JkT++(Jf6++(Jfe++(JgR++(JfL++(Jff++(Jcg++(JbZ++(JbG++(Ja4++(Jbm++(Jbb++(JaX++(JaS++(JaJ++(JaF++(JaA++(Jax++(Jas++(Jak++(Jaf++(J8++(J6++(J3++(J1++(J0++(JZ++(JV++[])))))))))))))))))))))))))))))))):=by kernel_rfl
theorem rnB (w:World)(os:OsState):topRun treeTable pw w 11 Ju 10596 (S1 w os).abs (restOf body Jv Jc Jao [topFrame Jao])=some (S34 w os).abs:=by
 rw[Jrd]; exact rn0 w os
theorem JKq (w:World)(os:OsState):topRun treeTable pw w 11 Ju 10609 ⟨boot_heap w.params,⟨[]⟩,boot_drawn,boot_toks,os⟩ (topStub pw)=some (S34 w os).abs:=by
 have h1:=JzW w os;rw[← PySem.W.Fast.te15667345088766844465,← PySem.W.Fast.te11892475500146522536,← PySem.W.Fast.te14364793385576792824] at h1;have h2:=JB3 w os;rw[← PySem.W.Fast.te14374325043358763698,← PySem.W.Fast.te14364793385576792824] at h2;exact go_top (n:=12) (N:=10597) h1 (piece_block (n:=1) (N:=10596) h2 (rnB w os))
noncomputable def q:Program:=view pw [213]
def loose:List Str:=[JgS,JpP,JpR,JqQ,JrH,Jbg,JgI,Jgd,JgF,JiM,Jw1,JxC,JEw,JCL,Jyn,JBv,JFE,Jzh,Jym,JFm,JAk,JBf,JCp,Jua,JvI,JtY,JuF,Ju7,Ju4,Jxu,JCf,Jw2,JEb,JDL,JBk,JCg,JBB,JwR,JEG,Jqx,Jqt,Juj,JtA,JvR,JiS,z227,z228,z229,z249,z250,z251,z252,z253,z254,JjQ,z256,z257,Jil,z259,z260,z261,z268,z269,z270,z271,z272,Ji9,z274,JjK,JEK,JwH,Jyw,JFr,JAE,JBF,JCl,Jxq,JzP,JyI,Jte,JtM,Jtd,Jsv,Jzl,JzX,JB4,JiH,JgJ,z310,JhS,Jij,JhX,Jit,Jjx,z327,JjC,JE9,Jy0,Jx5,JwV,Jzs,JA6,JEp,z336,z337,z338,Jiv,JiP,JFM,Jyq,JhT,JiD,JiB,Jj3,Jjk,Jka,Jjz,Jjw,JjT,Jik,JhP,Jii,Jiz,Jid,Jvd,JB7,Jh7,Jip,Jxn,JzE,JBQ,JFX,JCb,JBa,Jy4,JnP,Jp2,JqK,JqU,Jgu,Jqi,JgL,Jio,Jed,Jer,Jdj,JdP,JgP,z536,z537,z538,z539,JjS,Jkb,JAh,JC9,JEz,JzC,JEn,JE0,Jxm,JDe,JxI,JyG,JEl,JFd,JEY,z555,z556,Jj1,z561,z562,z563,z564,z565,z566,z567,Jir,JiG,z570,JiC,z578,z579,JfZ,Jue,Jtj,z605,z606,z615,z616,z617,z618,z619,z620,z621,z622,z623,z624,z625,z638,z639]
def Xt (s:Shared):Bool:=xlAt q [] s&&recOk [] s
def H1 (P:Params):Heap:=absHeap (mkT 12 P L34) 1323 JS
def K (P:Params):Frag:=[(1,o1 P),(3,o878 P),(90,o78 P),(91,o80 P),(104,o89 P),(105,o90 P),(111,o93 P),(112,o94 P),(118,o97 P),(119,o98 P),(121,JBN P),(122,JF8 P),(132,Jvr P),(133,JtC P),(139,Jsw P),(140,Js3 P),(146,JsB P),(147,JsR P),(153,JxQ P),(154,JA5 P),(160,JBq P),(161,JF5 P),(167,JwK P),(168,Jzx P),(174,JBJ P),(175,JD3 P),(181,JDp P),(182,JE3 P),(188,JFU P),(189,JwM P),(202,JD7 P),(203,JDG P),(209,JDR P),(210,JCz P),(223,JDV P),(224,Jvt P),(230,Jvz P),(231,JsH P),(237,JvJ P),(238,Juk P),(244,JwG P),(245,JDX P),(251,JFN P),(252,JCZ P),(258,JxS P),(259,JCT P),(265,JBo P),(266,JBl P),(272,JAL P),(273,JDl P),(286,JEs P),(287,JA7 P),(307,JtP P),(308,JtX P),(310,Ju3 P),(311,JtS P),(328,JzL P),(329,Jz7 P),(331,JDw P),(332,JAG P),(342,Jyr P),(343,JDu P),(384,JFH P),(385,JEx P),(393,JCJ P),(399,JBV P),(400,JwY P),(406,JyY P),(407,JxV P),(413,JwD P),(414,JA2 P),(554,Juy P),(555,Jvo P),(557,Js0 P),(558,Jvn P),(575,JFe P),(576,JuZ P),(582,Juw P),(583,JuK P),(597,JsA P),(598,Jtt P),(615,JsN P),(616,JsM P),(618,JtZ P),(619,JuY P),(646,Jt6 P),(647,JsJ P),(664,JAt P),(665,Jw9 P),(671,JDD P),(672,JEW P),(744,Jsn P),(745,Jtp P),(762,JyT P),(763,Jz5 P),(765,JBR P),(766,JyW P),(786,JtQ P),(787,Jvc P),(825,JB2 P),(826,Jxg P),(835,JtN P),(836,JzZ P),(877,JuA P),(878,Jzw P),(893,JDj P),(894,JB1 P),(921,JFz P),(922,JxN P),(935,Jzj P),(936,JEI P),(973,Ju9 P),(974,Juz P),(982,JFS P),(983,JAA P),(989,Jw5 P),(990,JFQ P),(996,JDt P),(997,JA1 P),(1003,Jw8 P),(1004,JBn P),(1024,Ju1 P),(1025,Juq P),(1029,Jsx P),(1030,JvO P),(1043,JxG P),(1044,JC8 P),(1050,JCU P),(1051,JDJ P),(1057,JCO P),(1058,JBz P),(1064,JAs P),(1065,JEN P),(1071,JCt P),(1072,JFR P),(1078,Jxc P),(1079,JAH P),(1085,JD6 P),(1086,JCv P),(1104,Jt0 P),(1105,JuJ P),(1118,JDd P),(1119,Jz6 P),(1125,Jty P),(1126,Jtf P),(1139,JAw P),(1140,Jws P),(1146,JC6 P),(1147,JFZ P),(1160,JF2 P),(1161,JCy P),(1184,Jsu P),(1185,Jvf P),(1190,JAC P),(1191,JFc P),(1192,Jwr P),(1193,JAT P),(1194,JAm P),(1195,JCA P),(1196,Jwu P),(1197,JCV P),(1198,Jx4 P),(1199,JFW P),(1200,JAX P),(1201,JBA P),(1202,JFP P),(1203,JAy P),(1204,JEE P),(1205,JCs P),(1206,JBM P),(1207,JFo P),(1208,JCr P),(1209,Jzc P),(1210,JEg P),(1211,JAj P),(1212,JBt P),(1213,JAp P),(1214,JxL P),(1220,Jt2 P),(1221,JvL P),(1227,Jvl P),(1228,JvH P),(1234,JxF P),(1235,JwA P),(1241,Jyu P),(1242,JCY P),(1246,JEe P),(1247,Jy9 P),(1253,JDy P),(1254,Jy6 P),(1260,JCB P),(1261,Jxl P),(1267,JDS P),(1268,Jye P),(1274,JFw P),(1275,JFh P),(1281,JuS P),(1282,Jvm P),(1288,JsI P),(1289,Jsk P),(1295,JtO P),(1296,JtW P),(1302,JvG P),(1303,JsC P),(1309,JxY P),(1310,JEL P),(1316,JDY P),(1317,JAZ P),(1321,JF0 P),(1322,JDA P)]
noncomputable def as:List Addr:=[1,3,90,91,104,105,111,112,118,119,121,122,132,133,139,140,146,147,153,154,160,161,167,168,174,175,181,182,188,189,202,203,209,210,223,224,230,231,237,238,244,245,251,252,258,259,265,266,272,273,286,287,307,308,310,311,328,329,331,332,342,343,384,385,393,399,400,406,407,413,414,554,555,557,558,575,576,582,583,597,598,615,616,618,619,646,647,664,665,671,672,744,745,762,763,765,766,786,787,825,826,835,836,877,878,893,894,921,922,935,936,973,974,982,983,989,990,996,997,1003,1004,1024,1025,1029,1030,1043,1044,1050,1051,1057,1058,1064,1065,1071,1072,1078,1079,1085,1086,1104,1105,1118,1119,1125,1126,1139,1140,1146,1147,1160,1161,1184,1185,1190,1191,1192,1193,1194,1195,1196,1197,1198,1199,1200,1201,1202,1203,1204,1205,1206,1207,1208,1209,1210,1211,1212,1213,1214,1220,1221,1227,1228,1234,1235,1241,1242,1246,1247,1253,1254,1260,1261,1267,1268,1274,1275,1281,1282,1288,1289,1295,1296,1302,1303,1309,1310,1316,1317,1321,1322]
theorem Jzd (P:Params):as=(K P).map (·.1):=by kernel_rfl
def hook:Hook:=kHook K as Jzd
theorem Juc:opening pw=plainProg pw.main.scope.names:=by kernel_rfl
theorem JqM (s:Shared):PySem.W.Fast.tw14289696077712309145 pw s=some s:=by kernel_rfl
theorem JrG (s:Shared):fenceModules? pw s=some s:=by rw[PySem.W.Fast.te14289696077712309145]; exact JqM s
theorem Jsa (w:World):((boot_heap w.params).isNs mainGlobals&&(Array.mk ([]:List GenState)).size==0,(boot_heap w.params).objs.size,PySem.W.Fast.tw8920871248978507458 (boot_heap w.params) mainGlobals "__annotations__")=(true,11,Ju):=by kernel_rfl
theorem JD5 (w:World)(os:OsState):(staticsOk (PySem.W.Fast.tw5923862056798008813 pw.main.body) (boot_heap w.params) (H1 w.params))=true:=by kernel_rfl
theorem Jd8 (w:World)(os:OsState):namesBound pw (H1 w.params)=true:=by kernel_rfl
theorem JBx (w:World)(os:OsState):gensDone (S34 w os).abs=true:=by kernel_rfl
theorem Jz3 (w:World)(os:OsState):laidKept (boot_heap w.params) (H1 w.params)=true:=by kernel_rfl
theorem JBd (w:World)(os:OsState):PySem.W.Fast.tw4187177175401517315 q loose (PySem.W.Fast.tw5923862056798008813 pw.main.body) Xt true (S34 w os).abs=openGood q loose:=by kernel_rfl
theorem Jyv (w:World)(os:OsState):as.map (H1 w.params).get?=(K w.params).map fun p=>some p.2:=by kernel_rfl
theorem JuM (w:World):((boot_heap w.params).isNs mainGlobals&&(Array.mk ([]:List GenState)).size==0,(boot_heap w.params).objs.size,(boot_heap w.params).nsMap mainGlobals "__annotations__")=(true,11,Ju):=by
 have h:=Jsa w;rw[← PySem.W.Fast.te8920871248978507458] at h;exact h
theorem Jvw (w:World)(os:OsState):(staticsOk (importedModules pw.main.body) (boot_heap w.params) (H1 w.params))=true:=by
 have h:=JD5 w os;rw[← PySem.W.Fast.te5923862056798008813] at h;exact h
theorem Jsi (w:World)(os:OsState):openSeen q loose (importedModules pw.main.body) Xt true (S34 w os).abs=openGood q loose:=by
 have h:=JBd w os;rw[← PySem.W.Fast.te5923862056798008813,← PySem.W.Fast.te4187177175401517315] at h;exact h
theorem left:LeftO pw q loose Xt (Hook.obs hook) (Hook.val hook) 11000:=by
 refine LeftO.of_pieces (H₀:=boot_heap) (H₁:=H1) (gs₀:=⟨[]⟩) (gs₁:=⟨[]⟩) (d₀:=boot_drawn) (d₁:=dr) (k₀:=boot_toks) (k₁:=2660) (m₀:=11) (ann:=Ju) (M:=10609) (boot_open Juc (by decide +kernel) JrG) JuM JKq (by decide +kernel) fun w=>funext fun os=>?_;refine Prod.ext ?_ (Prod.ext (Jsi w os) (Jyv w os));exact Bool.and_eq_true_iff.mpr ⟨Bool.and_eq_true_iff.mpr ⟨Bool.and_eq_true_iff.mpr ⟨Jvw w os,Jd8 w os⟩,JBx w os⟩,Jz3 w os⟩
end H
theorem JfE:∀ {ks:List Str}{vs:List Value},ks.length=vs.length→∀ k∈ks,((ks.zip vs).lookup k).isSome=true
 | k::ks,v::vs,h,x,hx=>by
  rw[List.zip_cons_cons,List.lookup_cons]
  cases q:x==k with
  | true=>rfl
  | false =>
   cases hx with
   | head=>rw[beq_self_eq_true] at q; exact ff q.symm
   | tail _ m=>exact JfE (Nat.succ.inj h) x m
theorem Jkd {α β:Type}{f g:α→Option β}:∀ {l:List α},(∀ x∈l,f x=g x)→l.filterMap f=l.filterMap g
 | [],_=>rfl
 | x::l,h=>by
  rw[List.filterMap_cons,List.filterMap_cons,h x (.head _),Jkd fun y hy=>h y (.tail _ hy)]
theorem JfU:∀ {ks:List Str}{vs:List Value},ks.length=vs.length→ks.Nodup→ks.filterMap (fun n=>((ks.zip vs).lookup n).map (n,·))=ks.zip vs
 | [],[],_,_=>rfl
 | k::ks,v::vs,h,nd=>by
  have nd:=List.nodup_cons.mp nd;rw[List.zip_cons_cons,List.filterMap_cons,List.lookup_cons];simp only[BEq.rfl,Option.map_some];congr 1;refine (Jkd fun x hx=>?_).trans (JfU (Nat.succ.inj h) nd.2);have:(x==k)=false:=beq_eq_false_iff_ne.mpr fun e=>nd.1 (e ▸ hx);rw[List.lookup_cons,this]
theorem JjE {fd:FuncData}{as:List Arg}(hp:fd.params=⟨[],as,none,[],[],none,[]⟩)(hd:fd.defaults=.none){vals:List Value}{ns:List Str}(hn:as.map (·.arg)=ns)(hl:vals.length=ns.length)
   (miss:ns.filter (fun n=>((ns.zip vals).lookup n).isNone)=[]) (zf:ns.filterMap (fun n=>((ns.zip vals).lookup n).map (n,·))=ns.zip vals): bindArgs fd ⟨vals,[]⟩=pure (ns.zip vals):=by
 cases fd with
 | mk nm qn ps b2 b3 b4 b5 ds b6 b7 b8 b9 b10 b11 b12 =>
 have hp:ps=_:=hp;have hd:ds=_:=hd;subst hp hd;subst hn;have c1:¬ ((decide (vals.length > (as.map (·.arg)).length)&&true)=true):=by rw[hl]; simp
 have hD:List.drop (([]:List Value).length - (as.map (·.arg)).length) ([]:List Value)=[]:=List.drop_nil;have c2:¬ ((!(((as.map (·.arg)).take ((as.map (·.arg)).length - (List.drop (([]:List Value).length - (as.map (·.arg)).length) ([]:List Value)).length)).filter (fun n=>(((as.map (·.arg)).zip vals).lookup n).isNone)).isEmpty)=true):=by
  rw[hD];show ¬ ((!(((as.map (·.arg)).take ((as.map (·.arg)).length)).filter (fun n=>(((as.map (·.arg)).zip vals).lookup n).isNone)).isEmpty)=true);rw[List.take_length,miss]; decide
 have hz:(List.drop ((as.map (·.arg)).length - (List.drop (([]:List Value).length - (as.map (·.arg)).length) ([]:List Value)).length) (as.map (·.arg))).zip (List.drop (([]:List Value).length - (as.map (·.arg)).length) ([]:List Value))=[]:=by rw[hD]; exact List.zip_nil_right
 refine (if_neg c1).trans ((if_neg c2).trans ((congrArg (fun l=>forIn l _ _ >>= _) hz).trans ?_));show (pure _:Sem (List (Str×Value)))=_;exact congrArg (fun l=>(pure l:Sem (List (Str×Value)))) ((congrArg (List.filterMap _) (List.append_nil _)).trans zf)
theorem Jkm {fd:FuncData}{as:List Arg}(hp:fd.params=⟨[],as,none,[],[],none,[]⟩)(hd:fd.defaults=.none)(nd:(as.map (·.arg)).Nodup){vals:List Value}(hl:vals.length=as.length):bindArgs fd ⟨vals,[]⟩=pure ((as.map (·.arg)).zip vals):=by
 have e:(as.map (·.arg)).length=vals.length:=by rw[List.length_map,hl]
 refine JjE hp hd rfl e.symm ?_ (JfU e nd);rw[List.filter_eq_nil_iff];intro x hx;have:=JfE e x hx
 cases q:((as.map (·.arg)).zip vals).lookup x with
 | none=>rw[q] at this; exact ff this
 | some _=>exact fun h=>ff h
theorem JbH:∀ (l:List (Str×NameKind)) (L:Nat) (acc:List (Str×Addr)) (x:Str),(acc.lookup x).isSome=true∨l.lookup x=some .cell→((cellsFrom L l acc).lookup x).isSome=true
 | [],L,acc,x,.inl h=>h
 | [],L,acc,x,.inr h=>by cases h
 | (n,k)::r,L,acc,x,h=>by
  show ((if k==.cell then cellsFrom (L+1) r ((n,L)::acc) else cellsFrom L r acc).lookup x).isSome=true;by_cases q:(x==n)=true
  · have q':x=n:=by simpa using q
    subst q';rw[List.lookup_cons_self] at h;split
    · exact JbH r _ _ _ (.inl (by rw[List.lookup_cons_self]; rfl))
    · rename_i hk;refine JbH r _ _ _ (.inl ?_);rcases h with h | h
      · exact h
      · obtain rfl:=Jp h; exact absurd rfl hk
  · rw[Bool.not_eq_true] at q;rw[List.lookup_cons,q] at h;split
    · refine JbH r _ _ _ ?_;rw[List.lookup_cons,q];exact h
    · exact JbH r _ _ _ h
noncomputable def Jnc:Option NameKind→Bool
 | some k=>match k with | .cell=>true | _=>false
 | none=>false
theorem Jm8 {o:Option NameKind}(h:orB (Jcn o) (Jnc o)=true):o=some .local∨o=some .cell:=by
 cases o with
 | none=>exact ff h
 | some k=>cases k <;> first | exact .inl rfl | exact .inr rfl | exact ff h
def JBI (sc:Scope)(x:Str):Bool:=orB (Jcn (sc.names.lookup x)) (Jnc (sc.names.lookup x))
def JiQ:List Str→Bool
 | []=>true
 | x::r=>Jh (Jaz (r.contains x)) (JiQ r)
theorem Jhg:∀ {l:List Str},JiQ l=true→l.Nodup
 | [],_=>.nil
 | x::r,h=>by
  obtain⟨h1,h2⟩:=Ja.mp (show Jh (Jaz (r.contains x)) (JiQ r)=true from h);refine List.nodup_cons.mpr ⟨fun m=>?_,Jhg h2⟩;rw[List.contains_iff_mem.mpr m] at h1;exact ff h1
def Jht (a:Arguments):Bool:=Jh (Jh (JdA a.posonlyargs) (JdA a.kwonlyargs)) (Jh (Jh (JdA a.kw_defaults) (JdA a.defaults)) (Jaz (orB a.vararg.isSome a.kwarg.isSome)))
theorem Jdg {α:Type}{l:List α}(h:JdA l=true):l=[]:=by
 cases l with
 | nil=>rfl
 | cons _ _=>exact ff h
theorem JiJ {a:Arguments}(h:Jht a=true):a=⟨[],a.args,none,[],[],none,[]⟩:=by
 obtain⟨p,as,v,k,kd,kw,d⟩:=a;obtain⟨h1,h2⟩:=Ja.mp h;obtain⟨h3,h4⟩:=Ja.mp h1;obtain⟨h5,h6⟩:=Ja.mp h2;obtain⟨h7,h8⟩:=Ja.mp h5;obtain rfl:p=[]:=Jdg h3;obtain rfl:k=[]:=Jdg h4;obtain rfl:kd=[]:=Jdg h7;obtain rfl:d=[]:=Jdg h8
 cases v with
 | some _=>exact ff h6
 | none =>
  cases kw with
  | some _=>exact ff h6
  | none=>rfl
def JsK (st:Option Stmt):Bool:=Jh (Jht (H.fArgs st)) (Jh (Jaz (H.fScope st).isCoroutine) (Jh (Jaz (H.fScope st).isGenerator) (Jh (Jn6 (H.fScope st)) (Jh (JiQ ((H.fArgs st).args.map (·.arg))) (Jw (JBI (H.fScope st)) ((H.fArgs st).args.map (·.arg)))))))
theorem JqB {sc:Scope}(h:Jn6 sc=true):sc.kind=.function:=by
 unfold Jn6 at h
 cases e:sc.kind with
 | function=>rfl
 | _=>rw[e] at h; exact ff h
def Jlp (K:Frag)(co:Addr)(q:Str):Bool:=match K.lookup co with
 | some ⟨_,_,.fields vs,_⟩=>match (vs[1]?:Option Value) with
  | some (Value.str x _)=>sEq x q
  | _=>false
 | _=>false
theorem JnC {K:Frag}{h:Heap}(x:K.In h){co:Addr}{q:Str}(e:Jlp K co q=true):h.CodeRec (.ref co) q:=by
 refine Jf fun n1G=>?_
 have e:(match K.lookup co with
  | some ⟨_,_,.fields vs,_⟩=>match (vs[1]?:Option Value) with
   | some (Value.str x _)=>sEq x q
   | _=>false
  | _=>false)=true:=e
 cases hl:K.lookup co with
 | none=>rw[hl] at e; exact ff e
 | some o =>
  rw[hl] at e;obtain⟨cl,d,dt,sl⟩:=o
  cases dt with
  | fields vs =>
   have e:(match (vs[1]?:Option Value) with
    | some (Value.str x _)=>sEq x q
    | _=>false)=true:=e
   cases hv:(vs[1]?:Option Value) with
   | none=>rw[hv] at e; exact ff e
   | some v =>
    rw[hv] at e
    cases v with
    | str y t =>
     obtain rfl:=Jbl e;exact n1G ⟨co,_,_,t,rfl,x _ _ hl,rfl,hv⟩
    | _=>exact ff e
  | _=>exact ff e
theorem Jf9 {a:Bool}:Jaz a=true↔a=false:=by
 cases a
 · exact⟨fun _=>rfl,fun _=>rfl⟩
 · exact⟨fun h=>h.symm,fun h=>h.symm⟩
theorem JlH {c:Jx}{K:Frag}(hK:K.In c.h₀){fa co:Addr}{cls d:Value}{p:Nat×Nat}{nm qn:Str}{o:Obj}(h:K.lookup fa=some o)(ho:o=H.n cls (.func (H.fd p.1 p.2 nm qn 3 [] .none .none .none d none (.ref co) .none 0)))
  (hco:Jlp K co qn=true) (ok:JsK (Jav prog p)=true):Jp8 c K fa (H.fArgs (Jav prog p)).args (H.fBody (Jav prog p)) (H.fScope (Jav prog p)):=by
 refine Jf fun n1G=>?_;subst ho;obtain⟨k0,ok⟩:=Ja.mp ok;obtain⟨k1,ok⟩:=Ja.mp ok;obtain⟨k2,ok⟩:=Ja.mp ok;obtain⟨k3,ok⟩:=Ja.mp ok;obtain⟨k4,k5⟩:=Ja.mp ok;have ha:=JiJ k0;have nd:=Jhg k4;refine n1G ?_;clear n1G;refine⟨⟨_,_,h,rfl,rfl,rfl,rfl,rfl,rfl,JnC hK hco,fun vals hl=>Jkm ha rfl nd hl⟩,Jf9.mp k1,Jf9.mp k2,JqB k3,nd,fun x hx=>?_⟩;rcases Jm8 (Jn k5 x hx) with e | e
 · exact .inl e
 · exact .inr ⟨e,fun L=>JbH _ _ _ _ (.inr e)⟩
def JqF:List Nat→List Arg→Bool
 | [],[]=>true
 | x::l,a::r=>match Js NT x with
  | some nm=>Jh (sEq nm a.arg) (JqF l r)
  | none=>false
 | _,_=>false
theorem JhE:∀ {l:List Nat}{as:List Arg},JqF l as=true→l.length=as.length∧∀ (j x:Nat),l[j]?=some x→∃ ar:Arg,as[j]?=some ar∧Js NT x=some ar.arg
 | [],[],_=>⟨rfl,fun j x h=>fo h⟩
 | x::l,a::r,h=>by
  refine Jf fun n1G=>?_
  have h:(match Js NT x with
   | some nm=>Jh (sEq nm a.arg) (JqF l r)
   | none=>false)=true:=h
  cases hn:Js NT x with
  | none=>rw[hn] at h; exact ff h
  | some nm =>
   rw[hn] at h;obtain⟨h1,h2⟩:=Ja.mp h;obtain⟨i1,i2⟩:=JhE h2;refine n1G ?_;clear n1G;refine⟨congrArg (·+1) i1,fun j y hj=>?_⟩;refine Jf fun n2G=>?_
   cases j with
   | zero =>
    obtain rfl:=Jp hj;exact n2G ⟨a,rfl,by rw[hn,Jbl h1]⟩
   | succ j =>
    exact n2G (i2 j y hj)
 | [],_::_,h=>by cases h
 | _::_,[],h=>by cases h
structure Ji (K:Frag)(fa:Addr)(q:List Nat×List QS)(p:Nat×Nat):Prop where
 obj:∃ co cls d nm qn,K.lookup fa=some (H.n cls (.func (H.fd p.1 p.2 nm qn 3 [] .none .none .none d none (.ref co) .none 0)))∧Jlp K co qn=true
 ok:JsK (Jav prog p)=true
 body:q.2=(H.fBody (Jav prog p)).map (Jbz NT G 40 (H.fScope (Jav prog p)))
 args:JqF q.1 (H.fArgs (Jav prog p)).args=true
theorem Ji.at {c:Jx}{K:Frag}(hK:K.In c.h₀){fa:Addr}{q:List Nat×List QS}{p:Nat×Nat}(x:Ji K fa q p):∃ as body fsc,Jp8 c K fa as body fsc∧q.2=body.map (Jbz NT G 40 fsc)∧q.1.length=as.length∧∀ (j:Nat) (x:Nat),q.1[j]?=some x→∃ ar:Arg,as[j]?=some ar∧Js NT x=some ar.arg:=by
 refine Jf fun n1G=>?_;obtain⟨⟨co,cls,d,nm,qn,h1,h2⟩,h3,h4,h5⟩:=x;exact n1G ⟨_,_,_,JlH hK h1 rfl h2 h3,h4,(JhE h5).1,(JhE h5).2⟩
inductive Jcy (K:Frag):List Addr→List (List Nat×List QS)→Prop
 | nil:Jcy K [] []
 | cons {fa q p fas qs}:Ji K fa q p→Jcy K fas qs→Jcy K (fa::fas) (q::qs)
theorem Jcy.at {K:Frag}:∀ {fas:List Addr}{qs:List (List Nat×List QS)},Jcy K fas qs→∀ fi fa q,Js fas fi=some fa→Js qs fi=some q→∃ p,Ji K fa q p
 | _,_,.cons x y,0,fa,q,e1,e2=>by cases e1; obtain rfl:=Jp e2; exact⟨_,x⟩
 | _,_,.cons x y,fi+1,fa,q,e1,e2=>Jcy.at y fi fa q e1 e2
theorem Jcy.tab {c:Jx}{K:Frag}(hK:K.In c.h₀)(lim:c.h₀.NoLimit){fas:List Addr}{F:FT'}(x:Jcy K fas F):Jok c K fas F :=
 ⟨fun fi fa q e1 e2=>(x.at fi fa q e1 e2).choose_spec.at hK,lim⟩
def JuV (K:Frag)(A0:Addr)(nm:Str):Bool:=match findIn K (.ref A0) nm with
 | some attr=>Jh (noGet K attr) (decide (takerIn K A0 nm=some none))
 | none=>false
def JoR (K:Frag)(A0:Addr)(att:Nat):Nat→List Str→Bool
 | _,[]=>true
 | x,nm::r=>Jh (match JbV att x with | true=>JuV K A0 nm | false=>true) (JoR K A0 att (x+1) r)
theorem JjG {K:Frag}{A0:Addr}{att:Nat}:∀ {l:List Str}{i:Nat},JoR K A0 att i l=true→∀ (j:Nat) (nm:Str),Js l j=some nm→JbV att (i+j)=true→JuV K A0 nm=true
 | nm::r,i,h,0,x,e,hb=>by
  obtain rfl:=Jp e;obtain⟨h1,_⟩:=Ja.mp h;rw[Nat.add_zero] at hb;rw[hb] at h1; exact h1
 | nm::r,i,h,j+1,x,e,hb=>JjG (Ja.mp h).2 j x e (by rw[Nat.add_right_comm]; exact hb)
 | [],i,h,j,x,e,hb=>fo e
def JyP (K:Frag)(JB:List Addr)(A0:Addr)(att:Nat)(p:Nat×Nat):Bool:=match p.1 with
 | x+3=>match Js NT x,Js JB p.2 with
  | some nm,some fa=>Jh (decide (findIn K (.ref A0) nm=some (some (.ref fa)))) (Jh (decide (typeIn K (.ref fa)=some (.type "function"))) (Jaz (JbV att x)))
  | _,_=>false
 | _=>false
def Jtc (K:Frag)(JB:List Addr)(A0:Addr)(cl:Cls):Bool :=
 Jh (decide (findIn K (.ref A0) "__getattribute__"=some (some (.builtin "object.__getattribute__")))) (Jh (decide (findIn K (.ref A0) "__getattr__"=some none)) (Jh (decide (findIn K (.ref A0) "__setattr__"=some (some (.builtin "object.__setattr__"))))
  (Jh (hasDictIn K A0) (Jh (plainOver K A0) (Jh (JoR K A0 cl.att 0 NT) (Jw (JyP K JB A0 cl.att) cl.mth))))))
theorem JpS {K:Frag}{JB:List Addr}{A0:Addr}{att x f:Nat}(h:JyP K JB A0 att (x+3,f)=true):∃ nm fa,Js NT x=some nm∧Js JB f=some fa∧findIn K (.ref A0) nm=some (some (.ref fa))∧typeIn K (.ref fa)=some (.type "function")∧JbV att x=false:=by
 have h:(match Js NT x,Js JB f with
  | some nm,some fa=>Jh (decide (findIn K (.ref A0) nm=some (some (.ref fa)))) (Jh (decide (typeIn K (.ref fa)=some (.type "function"))) (Jaz (JbV att x)))
  | _,_=>false)=true:=h
 cases e1:Js NT x with
 | none=>rw[e1] at h; exact ff h
 | some nm =>
  cases e2:Js JB f with
  | none=>rw[e1,e2] at h; exact ff h
  | some fa =>
   rw[e1,e2] at h;obtain⟨h1,h⟩:=Ja.mp h;obtain⟨h2,h3⟩:=Ja.mp h;exact⟨nm,fa,rfl,rfl,of_decide_eq_true h1,of_decide_eq_true h2,Jf9.mp h3⟩
theorem Jql {K:Frag}{JB:List Addr}{A0:Addr}{cl:Cls}(h:Jtc K JB A0 cl=true):JrM K JB A0 cl:=by
 obtain⟨h1,h⟩:=Ja.mp h;obtain⟨h2,h⟩:=Ja.mp h;obtain⟨h3,h⟩:=Ja.mp h;obtain⟨h4,h⟩:=Ja.mp h;obtain⟨h5,h⟩:=Ja.mp h;obtain⟨h6,h7⟩:=Ja.mp h;refine⟨of_decide_eq_true h1,of_decide_eq_true h2,of_decide_eq_true h3,h4,h5,fun x nm hb hn=>?_,fun x f hl=>JpS (Jn h7 _ (JaD hl))⟩;have this:=JjG h6 x nm hn (by rw[Nat.zero_add]; exact hb);unfold JuV at this
 cases e:findIn K (.ref A0) nm with
 | none=>rw[e] at this; exact ff this
 | some attr =>
  rw[e] at this;obtain⟨a,b⟩:=Ja.mp this;exact⟨attr,rfl,a,of_decide_eq_true b⟩
def Jne (K:Frag)(JB:List Addr)(A0:Addr)(cl:Cls):Bool:=Jh (makesIn K A0) (match cl.init with
 | some f=>match Js JB f with
  | some fa=>Jh (decide (findIn K (.ref A0) "__init__"=some (some (.ref fa)))) (decide (typeIn K (.ref fa)=some (.type "function")))
  | none=>false
 | none=>decide (findIn K (.ref A0) "__init__"=some (some (.builtin "object.__init__"))))
theorem JnO {K:Frag}{JB:List Addr}{A0:Addr}{cl:Cls}(h:Jne K JB A0 cl=true):makesIn K A0=true∧match cl.init with
  | some f=>∃ fa,Js JB f=some fa∧findIn K (.ref A0) "__init__"=some (some (.ref fa))∧typeIn K (.ref fa)=some (.type "function")
  | none=>findIn K (.ref A0) "__init__"=some (some (.builtin "object.__init__")):=by
 obtain⟨h1,h2⟩:=Ja.mp h;refine⟨h1,?_⟩;revert h2
 cases cl.init with
 | none=>intro h2; exact of_decide_eq_true h2
 | some f =>
  intro h2
  have h2:(match Js JB f with
   | some fa=>Jh (decide (findIn K (.ref A0) "__init__"=some (some (.ref fa)))) (decide (typeIn K (.ref fa)=some (.type "function")))
   | none=>false)=true:=h2
  show ∃ fa,Js JB f=some fa∧findIn K (.ref A0) "__init__"=some (some (.ref fa))∧typeIn K (.ref fa)=some (.type "function")
  cases e:Js JB f with
  | none=>rw[e] at h2; exact ff h2
  | some fa =>
   rw[e] at h2;obtain⟨h2,h3⟩:=Ja.mp h2;exact⟨fa,rfl,of_decide_eq_true h2,of_decide_eq_true h3⟩
def Jl9 {α β:Type}(f:α→β→Bool):List α→List β→Bool
 | [],[]=>true
 | a::l,b::r=>Jh (f a b) (Jl9 f l r)
 | _,_=>false
theorem JiA {α β:Type}{f:α→β→Bool}:∀ {l:List α}{r:List β},Jl9 f l r=true→(∀ (i:Nat) (a:α),Js l i=some a→∃ b,Js r i=some b∧f a b=true)
 | a::l,b::r,h,0,x,e=>by cases e; exact⟨b,rfl,(Ja.mp h).1⟩
 | a::l,b::r,h,i+1,x,e=>JiA (Ja.mp h).2 i x e
 | [],[],_,i,x,e=>fo e
 | [],_::_,h,_,_,_=>by cases h
 | _::_,[],h,_,_,_=>by cases h
def JmW (K:Frag):D→Value→Bool
 | .none,v=>decide (v=.none)
 | .bool b,v=>decide (v=.bool b)
 | .int (.lit i),v=>match v with | .int j _=>decide (i=j) | _=>false
 | .tup l,v=>match v with
  | .ref a=>match K.lookup a with
   | some ⟨.type t,_,.seq xs _,_⟩=>Jh (decide (t="tuple")) (go K l xs.toList)
   | _=>false
  | _=>false
 | .obj i,v=>match i with
  | 0=>decide (v=.ref 90)
  | 1=>decide (v=.ref 91)
  | _=>false
 | _,_=>false
where go (K:Frag):List D→List Value→Bool
 | [],[]=>true
 | d::l,v::r=>Jh (JmW K d v) (go K l r)
 | _,_=>false
mutual
theorem Jld {ν:Vl}{K:Frag}{h:Heap}(x:K.In h):∀ {d:D}{v:Value},JmW K d v=true→Je ν [90,91] h d v
 | .none,v,e=>by
  have e:decide (v=.none)=true:=e;have e:=of_decide_eq_true e;exact e
 | .bool b,v,e=>by
  have e:decide (v=.bool b)=true:=e;have e:=of_decide_eq_true e;exact e
 | .int (.lit i),v,e=>by
  refine Jf fun n1G=>?_
  cases v with
  | int j t =>
   have e:decide (i=j)=true:=e;exact n1G ⟨t,by rw[← of_decide_eq_true e]; rfl⟩
  | _=>exact ff e
 | .int (.var _ _),v,e=>by cases e
 | .int (.op _ _ _),v,e=>by cases e
 | .str _,v,e=>by cases e
 | .tup l,v,e=>by
  refine Jf fun n2G=>?_
  cases v with
  | ref a =>
   have e:(match K.lookup a with | some ⟨.type t,_,.seq xs _,_⟩=>Jh (decide (t="tuple")) (JmW.go K l xs.toList) | _=>false)=true:=e
   cases hl:K.lookup a with
   | none=>rw[hl] at e; cases e
   | some o =>
    rw[hl] at e;obtain⟨cl,d,dt,sl⟩:=o
    cases cl with
    | type t =>
     cases dt with
     | seq xs n =>
      obtain⟨e1,e2⟩:=Ja.mp e;have e1:=of_decide_eq_true e1;subst e1;exact n2G ⟨a,_,rfl,⟨_,x _ _ hl,rfl,_,rfl⟩,Jjy x e2⟩
     | _=>exact ff e
    | _=>exact ff e
  | _=>exact ff e
 | .obj i,v,e=>by
  match i,e with
  | 0,e=>exact⟨90,rfl,of_decide_eq_true e⟩
  | 1,e=>exact⟨91,rfl,of_decide_eq_true e⟩
  | _+2,e=>exact ff e
 | .tab _ _,v,e=>by cases e
 | .opq _,v,e=>by cases e
theorem Jjy {ν:Vl}{K:Frag}{h:Heap}(x:K.In h):∀ {l:List D}{vs:List Value},JmW.go K l vs=true→Je.goL ν [90,91] h l vs
 | [],[],_=>rfl
 | d::l,v::r,e=>⟨v,r,rfl,Jld x (Ja.mp e).1,Jjy x (Ja.mp e).2⟩
 | [],_::_,e=>by cases e
 | _::_,[],e=>by cases e
end
def mgK (K:Frag)(x:Str):Option Value:=match K.lookup mainGlobals with
 | some ⟨_,_,.dict es _,_⟩=>nsFind es x
 | _=>none
def Jhi (K:Frag)(JB clsA:List Addr)(p:Str×GV):Bool:=match p.2 with
 | .fn f=>match Nat.blt f 900 with
  | true=>(match Js JB f with | some fa=>decide (mgK K p.1=some (.ref fa)) | none=>false)
  | false=>true
 | .cls k=>(match Js clsA k with | some A0=>Jh (decide (mgK K p.1=some (.ref A0))) (keepIn K (.ref A0)) | none=>false)
 | .bi k=>Jh (decide (mgK K p.1=none)) (Jh (decide (p.1≠"__name__")) (decide (bootBuiltins p.1=some (biV k))))
 | .val d=>(match mgK K p.1 with | some v=>JmW K d v | none=>false)
theorem JrA {c:Jx}{K:Frag}(hK:K.In c.h₀)(ha:c.ad₀=[90,91]){JB:List Addr}{mg mb:Str→Option Value}(ng:c.h₀.Ns mainGlobals mg)(nb:c.h₀.Ns builtinsNs mb)(hb:∀ x:Str,x≠"__name__"→mb x=bootBuiltins x)
  (hm:∃ o,K.lookup mainGlobals=some o) (h1:Jw (Jhi K JB c.clsA) G=true) (h2:Jl9 (fun cl A0=>Jne K JB A0 cl) C c.clsA=true) (h3:Jw (fun fa=>keepIn K (.ref fa)) JB=true):JcH c K JB mg mb:=by
 have hmg:∀ x,mg x=mgK K x:=by
  obtain⟨o,ho⟩:=hm;intro x;rw[ng.eq_nsMap];unfold Heap.nsMap mgK;rw[hK _ _ ho,ho];obtain⟨cls,d,dt,sl⟩:=o
  cases dt <;> rfl
 have mem:∀ {x v},JO G x=some v→Jhi K JB c.clsA (x,v)=true:=fun {x v} e=>by
  rw[Jbo] at e;refine Jn h1 _ ?_;clear hmg h1;generalize G=l at e ⊢
  induction l with
  | nil=>exact fo e
  | cons p r ih =>
   rw[List.lookup_cons] at e
   cases q:x==p.1 with
   | true =>
    rw[q] at e;obtain rfl:=Jp e;obtain rfl:=eq_of_beq q;exact .head _
   | false=>rw[q] at e; exact .tail _ (ih e)
 have k3:∀ f fa,Js JB f=some fa→keepIn K (.ref fa)=true:=fun f fa e=>Jn h3 _ (by rw[JG] at e; exact List.mem_of_getElem? e);refine⟨ng,nb,fun x f e hf=>?_,fun x k e=>?_,fun x k e=>?_,fun x d e=>?_,fun k cl A0 e1 e2=>?_,k3⟩
 · have z:=mem e;unfold Jhi at z;dsimp only at z;rw[show Nat.blt f 900=true from Nat.ble_eq_true_of_le (by omega)] at z
   cases q:Js JB f with
   | none=>rw[q] at z; exact ff z
   | some fa=>rw[q] at z; exact⟨fa,rfl,(hmg x).trans (of_decide_eq_true z),k3 _ _ q⟩
 · have z:=mem e;unfold Jhi at z;dsimp only at z
   cases q:Js c.clsA k with
   | none=>rw[q] at z; exact ff z
   | some A0 =>
    rw[q] at z;obtain⟨z1,z2⟩:=Ja.mp z;exact⟨A0,rfl,(hmg x).trans (of_decide_eq_true z1),z2⟩
 · obtain⟨z1,z⟩:=Ja.mp (mem e);obtain⟨z2,z3⟩:=Ja.mp z;exact⟨(hmg x).trans (of_decide_eq_true z1),(hb x (of_decide_eq_true z2)).trans (of_decide_eq_true z3)⟩
 · have z:=mem e;unfold Jhi at z;dsimp only at z
   cases q:mgK K x with
   | none=>rw[q] at z; exact ff z
   | some v=>rw[q] at z; exact⟨v,(hmg x).trans q,by rw[ha]; exact Jld hK z⟩
 · obtain⟨A1,y1,y2⟩:=JiA h2 k cl e1;obtain rfl:=sjt e2 y1;exact JnO y2
theorem Jq8 {c:Jx}{K:Frag}(hK:K.In c.h₀){JB:List Addr}(h:Jl9 (fun cl A0=>Jtc K JB A0 cl) C c.clsA=true):JcI c K JB :=
 ⟨hK,fun k cl e=>by
  obtain⟨A0,y1,y2⟩:=JiA h k cl e;exact⟨A0,y1,Jql y2⟩,JkP⟩
def cI (n:Nat):QE:=.const (I n)
def cS (s:Str):QE:=.const (.str (.lit s))
def f0:List Nat×List QS:=([0],[(.asg (.attr (.loc 0) 3) (.list [])),(.asg (.attr (.loc 0) 4) (.dict [])),(.asg (.attr (.loc 0) 5) (.list [])),(.asg (.attr (.loc 0) 6) (.list [])),(.asg (.attr (.loc 0) 7) (.list [])),(.forr (.name 1) (cI 16) [(.asg (.name 2) (.tup [cI 1,.loc 1])),(.expr (.meth (.attr (.loc 0) 3) 0 [.loc 2])),(.asg (.sub (.attr (.loc 0) 4) (.loc 2)) (.loc 1)),(.expr (.meth (.attr (.loc 0) 5) 0 [cI 1])),(.expr (.meth (.attr (.loc 0) 6) 0 [cI 1])),(.expr (.meth (.attr (.loc 0) 7) 0 [cI 0]))])])
def f1:List Nat×List QS:=([0,9],[(.ite (.bop .Or (.cmp .Lt (.loc 9) (cI 0)) (.cmp .GtE (.loc 9) (.bi 0 [(.attr (.loc 0) 3)]))) [.bad] []),(.ret (.sub (.attr (.loc 0) 3) (.loc 9)))])
def f2:List Nat×List QS:=([0,2],[(.asg (.name 10) (.meth (.attr (.loc 0) 4) 2 [.loc 2,(.neg (cI 1))])),(.ite (.cmp .GtE (.loc 10) (cI 0)) [(.ret (.loc 10))] []),(.expr (.call 6 [.loc 0,.loc 2])),(.asg (.name 11) (cI 1)),(.asg (.name 12) (cI 1)),(.asg (.name 13) (cI 0)),(.ite (.bop .Or (.cmp .Eq (.sub (.loc 2) (cI 0)) (cI 6)) (.cmp .Eq (.sub (.loc 2) (cI 0)) (cI 7))) [(.asg (.name 13) (cI 1))] []),(.asg (.name 14) (.call 4 [(.sub (.loc 2) (cI 0))])),(.for_ (.name 15) (.call 3 [.loc 2]) [(.ite (.cmp .Gt (.bin .Add (.sub (.attr (.loc 0) 5) (.loc 15)) (.loc 14)) (.loc 11)) [(.asg (.name 11) (.bin .Add (.sub (.attr (.loc 0) 5) (.loc 15)) (.loc 14)))] []),(.aug 12 .Add (.sub (.attr (.loc 0) 6) (.loc 15))),(.ite (.cmp .Eq (.sub (.attr (.loc 0) 7) (.loc 15)) (cI 1)) [(.asg (.name 13) (cI 1))] [])]),(.ite (.cmp .Gt (.loc 11) (cI 24)) [.bad] []),(.ite (.cmp .Gt (.loc 12) (cI 4096)) [.bad] []),(.asg (.name 9) (.bi 0 [(.attr (.loc 0) 3)])),(.expr (.meth (.attr (.loc 0) 3) 0 [.loc 2])),(.asg (.sub (.attr (.loc 0) 4) (.loc 2)) (.loc 9)),(.expr (.meth (.attr (.loc 0) 5) 0 [.loc 11])),(.expr (.meth (.attr (.loc 0) 6) 0 [.loc 12])),(.expr (.meth (.attr (.loc 0) 7) 0 [.loc 13])),(.ret (.loc 9))])
def f3:List Nat×List QS:=([2],[(.asg (.name 17) (.sub (.loc 2) (cI 0))),(.ite (.bop .Or (.cmp .Eq (.loc 17) (cI 2)) (.cmp .Eq (.loc 17) (cI 3))) [(.ret (.sub (.loc 2) (cI 2)))] []),(.ite (.bop .Or (.cmp .Eq (.loc 17) (cI 4)) (.bop .Or (.cmp .Eq (.loc 17) (cI 5)) (.bop .Or (.cmp .Eq (.loc 17) (cI 8)) (.bop .Or (.cmp .Eq (.loc 17) (cI 9)) (.cmp .Eq (.loc 17) (cI 11)))))) [(.ret (.tup [(.sub (.loc 2) (cI 1))]))] []),(.ite (.cmp .Eq (.loc 17) (cI 10)) [(.ret (.bin .Add (.tup [(.sub (.loc 2) (cI 1))]) (.sub (.loc 2) (cI 3))))] []),(.ret (.tup []))])
def f4:List Nat×List QS:=([17],[(.ite (.bop .Or (.cmp .Eq (.loc 17) (cI 2)) (.bop .Or (.cmp .Eq (.loc 17) (cI 3)) (.cmp .Eq (.loc 17) (cI 4)))) [(.ret (cI 1))] []),(.ret (cI 0))])
def f5:List Nat×List QS:=([17],[(.ite (.bop .Or (.cmp .Eq (.loc 17) (cI 2)) (.cmp .Eq (.loc 17) (cI 3))) [(.ret (cI 3))] []),(.ite (.cmp .Eq (.loc 17) (cI 10)) [(.ret (cI 4))] []),(.ret (cI 2))])
def f6:List Nat×List QS:=([18,2],[(.ite (.bop .Or (.cmp .Eq (.bi 0 [.loc 2]) (cI 0)) (.bop .Or (.cmp .LtE (.sub (.loc 2) (cI 0)) (cI 1)) (.cmp .Gt (.sub (.loc 2) (cI 0)) (cI 11)))) [.bad] []),(.asg (.name 17) (.sub (.loc 2) (cI 0))),(.ite (.cmp .NotEq (.bi 0 [.loc 2]) (.call 5 [.loc 17])) [.bad] []),(.for_ (.name 15) (.call 3 [.loc 2]) [(.expr (.meth (.loc 18) 5 [.loc 15]))]),(.ite (.bop .Or (.cmp .Eq (.loc 17) (cI 2)) (.cmp .Eq (.loc 17) (cI 3))) [(.expr (.call 7 [.loc 18,.loc 2]))] [(.ite (.bop .Or (.cmp .Eq (.loc 17) (cI 6)) (.cmp .Eq (.loc 17) (cI 7))) [(.ite (.cmp .Lt (.sub (.loc 2) (cI 1)) (cI 0)) [.bad] [])] [(.ite (.cmp .Eq (.loc 17) (cI 10)) [(.ite (.bop .Or (.not (.call 9 [.loc 18,(.sub (.loc 2) (cI 1))])) (.cmp .Lt (.sub (.loc 2) (cI 2)) (cI 0))) [.bad] []),(.expr (.call 8 [.loc 18,(.sub (.loc 2) (cI 3))]))] [(.ite (.cmp .Eq (.loc 17) (cI 8)) [(.ite (.not (.bop .Or (.call 16 [.loc 18,(.sub (.loc 2) (cI 1))]) (.call 18 [.loc 18,(.sub (.loc 2) (cI 1))]))) [.bad] [])] [(.ite (.not (.call 9 [.loc 18,(.sub (.loc 2) (cI 1))])) [.bad] [])])])])])])
def f7:List Nat×List QS:=([18,2],[(.ite (.bop .Or (.cmp .LtE (.sub (.loc 2) (cI 1)) (cI 0)) (.cmp .In (.sub (.loc 2) (cI 1)) (.const (.obj 1)))) [.bad] []),(.expr (.call 8 [.loc 18,(.sub (.loc 2) (cI 2))]))])
noncomputable def f8:List Nat×List QS:=([18,19],[(.for_ (.name 20) (.loc 19) [(.ite (.not (.call 9 [.loc 18,.loc 20])) [.bad] [])])])
def f9:List Nat×List QS:=([18,9],[(.ite (.bop .Or (.cmp .Eq (.loc 9) (cI 0)) (.cmp .Eq (.loc 9) (cI 14))) [(.ret (.const (.bool false)))] []),(.asg (.name 17) (.sub (.meth (.loc 18) 5 [.loc 9]) (cI 0))),(.ret (.bop .Or (.cmp .LtE (.loc 17) (cI 4)) (.bop .Or (.cmp .Eq (.loc 17) (cI 6)) (.cmp .Eq (.loc 17) (cI 7)))))])
def f10:List Nat×List QS:=([18,21,19],[(.ite (.cmp .In (.loc 21) (.const (.obj 1))) [(.ret .bad)] []),(.ret (.meth (.loc 18) 25 [(.tup [cI 2,.loc 21,.loc 19])]))])
def f11:List Nat×List QS:=([18,21,19],[(.ite (.cmp .In (.loc 21) (.const (.obj 1))) [(.ret .bad)] []),(.ret (.meth (.loc 18) 25 [(.tup [cI 3,.loc 21,.loc 19])]))])
def f12:List Nat×List QS:=([18,23],[(.ret (.meth (.loc 18) 25 [(.tup [cI 6,.loc 23])]))])
def f13:List Nat×List QS:=([18,9],[(.ret (.sub (.meth (.loc 18) 5 [.loc 9]) (cI 0)))])
def f14:List Nat×List QS:=([18,9],[(.asg (.name 2) (.meth (.loc 18) 5 [.loc 9])),(.ite (.bop .Or (.cmp .Eq (.sub (.loc 2) (cI 0)) (cI 2)) (.cmp .Eq (.sub (.loc 2) (cI 0)) (cI 3))) [(.ret (.sub (.loc 2) (cI 1)))] []),(.ite (.cmp .Eq (.sub (.loc 2) (cI 0)) (cI 1)) [(.ret (.meth (.const (.obj 0)) 2 [.loc 9,cI 0]))] []),(.ite (.cmp .Eq (.sub (.loc 2) (cI 0)) (cI 4)) [(.ret (cI 5))] []),(.ret (cI 0))])
def f15:List Nat×List QS:=([18,9],[(.asg (.name 2) (.meth (.loc 18) 5 [.loc 9])),(.ite (.bop .Or (.cmp .Eq (.sub (.loc 2) (cI 0)) (cI 2)) (.cmp .Eq (.sub (.loc 2) (cI 0)) (cI 3))) [(.ret (.sub (.loc 2) (cI 2)))] []),(.ret (.tup []))])
def f16:List Nat×List QS:=([18,9],[(.ite (.bop .And (.cmp .LtE (cI 1) (.loc 9)) (.cmp .LtE (.loc 9) (cI 11))) [(.ret (.const (.bool true)))] []),(.ret (.cmp .Eq (.sub (.meth (.loc 18) 5 [.loc 9]) (cI 0)) (cI 3)))])
def f17:List Nat×List QS:=([18,9],[(.ite (.bop .Or (.cmp .Eq (.loc 9) (cI 12)) (.bop .Or (.cmp .Eq (.loc 9) (cI 13)) (.cmp .Eq (.loc 9) (cI 14)))) [(.ret (.const (.bool true)))] []),(.asg (.name 17) (.sub (.meth (.loc 18) 5 [.loc 9]) (cI 0))),(.ret (.bop .Or (.cmp .Eq (.loc 17) (cI 2)) (.bop .Or (.cmp .Eq (.loc 17) (cI 4)) (.cmp .Eq (.loc 17) (cI 8)))))])
def f18:List Nat×List QS:=([18,9],[(.asg (.name 17) (.sub (.meth (.loc 18) 5 [.loc 9]) (cI 0))),(.ret (.bop .Or (.cmp .Eq (.loc 17) (cI 6)) (.cmp .Eq (.loc 17) (cI 7))))])
def f19:List Nat×List QS:=([18,9,24,25],[(.expr (.meth (.loc 18) 5 [.loc 9])),(.ite (.cmp .Eq (.sub (.attr (.loc 18) 7) (.loc 9)) (cI 0)) [(.ret (.loc 9))] []),(.ret (.call 20 [.loc 18,.loc 9,.loc 24,.loc 25,(.dict [])]))])
def f20:List Nat×List QS:=([18,9,24,25,26],[(.ite (.cmp .Eq (.sub (.attr (.loc 18) 7) (.loc 9)) (cI 0)) [(.ret (.loc 9))] []),(.ite (.cmp .In (.loc 9) (.loc 26)) [(.ret (.sub (.loc 26) (.loc 9)))] []),(.asg (.name 2) (.sub (.attr (.loc 18) 3) (.loc 9))),(.ite (.cmp .Eq (.sub (.loc 2) (cI 0)) (cI 6)) [(.ret (.call 22 [.loc 24,(.sub (.loc 2) (cI 1)),.loc 9]))] []),(.ite (.cmp .Eq (.sub (.loc 2) (cI 0)) (cI 7)) [(.ret (.call 22 [.loc 25,(.sub (.loc 2) (cI 1)),.loc 9]))] []),(.asg (.name 15) (.list [])),(.for_ (.name 27) (.call 3 [.loc 2]) [(.expr (.meth (.loc 15) 0 [(.call 20 [.loc 18,.loc 27,.loc 24,.loc 25,.loc 26])]))]),(.asg (.sub (.loc 26) (.loc 9)) (.call 21 [.loc 18,.loc 2,(.bi 2 [.loc 15])])),(.ret (.sub (.loc 26) (.loc 9)))])
def f21:List Nat×List QS:=([18,2,15],[(.asg (.name 17) (.sub (.loc 2) (cI 0))),(.ite (.bop .Or (.cmp .Eq (.loc 17) (cI 2)) (.cmp .Eq (.loc 17) (cI 3))) [(.ret (.meth (.loc 18) 25 [(.tup [.loc 17,(.sub (.loc 2) (cI 1)),.loc 15])]))] []),(.ite (.cmp .Eq (.loc 17) (cI 10)) [(.ret (.meth (.loc 18) 25 [(.tup [.loc 17,(.sub (.loc 15) (cI 0)),(.sub (.loc 2) (cI 2)),(.slice (.loc 15) (cI 1) (.const .none))])]))] []),(.ite (.cmp .Eq (.loc 17) (cI 8)) [(.ret .bad)] []),(.ret (.meth (.loc 18) 25 [(.tup [.loc 17,(.sub (.loc 15) (cI 0))])]))])
noncomputable def f22:List Nat×List QS:=([19,28,9],[(.ite (.cmp .Lt (.loc 28) (.bi 0 [.loc 19])) [(.ret (.sub (.loc 19) (.loc 28)))] []),(.ret (.loc 9))])
noncomputable def f23:List Nat×List QS:=([0,29,30,31,32,33,34],[(.asg (.attr (.loc 0) 29) (.loc 29)),(.asg (.attr (.loc 0) 30) (.loc 30)),(.asg (.attr (.loc 0) 31) (.loc 31)),(.asg (.attr (.loc 0) 32) (.loc 32)),(.asg (.attr (.loc 0) 33) (.loc 33)),(.asg (.attr (.loc 0) 34) (.loc 34)),(.asg (.attr (.loc 0) 35) (.const .none))])
def f24:List Nat×List QS:=([0],[(.asg (.attr (.loc 0) 18) (.new 0 [])),(.asg (.attr (.loc 0) 36) (.list [(.const .none)])),(.asg (.attr (.loc 0) 37) (.list [(.const .none)])),(.asg (.attr (.loc 0) 38) (.list [(.const .none)])),(.asg (.attr (.loc 0) 39) (.dict [])),(.asg (.attr (.loc 0) 40) (.list [])),(.asg (.attr (.loc 0) 41) (cI 0))])
noncomputable def f25:List Nat×List QS:=([42,21],[(.ite (.cmp .In (.loc 21) (.const (.obj 1))) [(.ret (.sub (.const (.obj 1)) (.loc 21)))] []),(.asg (.name 43) (.sub (.attr (.loc 42) 36) (.loc 21))),(.asg (.name 19) (.list [])),(.forr (.name 28) (.bi 0 [(.attr (.loc 43) 44)]) [(.expr (.meth (.loc 19) 0 [(.call 12 [(.attr (.loc 42) 18),.loc 28])]))]),(.ret .bad)])
def f26:List Nat×List QS:=([42,45],[(.asg (.name 46) (.sub (.attr (.loc 42) 37) (.sub (.loc 45) (cI 1)))),(.ite (.cmp .Is (.loc 46) (.const .none)) [.bad] []),(.ret (.call 19 [(.attr (.loc 42) 18),(.attr (.loc 46) 32),(.call 15 [(.attr (.loc 42) 18),(.sub (.loc 45) (cI 0))]),(.tup [])]))])
def f27:List Nat×List QS:=([47,9],[(.asg (.name 48) (.list [])),(.asg (.name 26) (.dict [.loc 9,cI 1])),(.asg (.name 49) (.rev (.bi 3 [(.meth (.attr (.loc 47) 52) 2 [.loc 9,(.tup [])])]))),(.whil (.loc 49) [(.asg (.name 50) (.meth (.loc 49) 1 [])),(.ite (.cmp .In (.loc 50) (.loc 26)) [.bad] []),(.asg (.sub (.loc 26) (.loc 50)) (cI 1)),(.expr (.meth (.loc 48) 0 [.loc 50])),(.ite (.call 18 [(.attr (.loc 47) 18),.loc 50]) [(.for_ (.name 15) (.rev (.bi 3 [(.meth (.attr (.loc 47) 52) 2 [.loc 50,(.tup [])])])) [(.expr (.meth (.loc 49) 0 [.loc 15]))])] [])]),(.ret (.loc 48))])
def f28:List Nat×List QS:=([47,9],[(.ite (.bin .BitAnd (.meth (.attr (.loc 47) 53) 2 [.loc 9,cI 0]) (cI 1)) [(.ret (.const (.bool true)))] []),(.for_ (.name 50) (.call 27 [.loc 47,.loc 9]) [(.ite (.bop .And (.call 17 [(.attr (.loc 47) 18),.loc 50]) (.bop .And (.not (.call 29 [.loc 47,.loc 50])) (.cmp .NotIn (.call 14 [(.attr (.loc 47) 18),.loc 50]) (.const (.tup [I 1,I 2,I 3]))))) [(.ret (.const (.bool true)))] [])]),(.ret (.const (.bool false)))])
def f29:List Nat×List QS:=([47,9],[(.ret (.bop .And (.cmp .Eq (.call 13 [(.attr (.loc 47) 18),.loc 9]) (cI 2)) (.cmp .Eq (.meth (.loc 47) 20 [.loc 9]) (cI 3))))])
def f30:List Nat×List QS:=([0,32,54,55,56,57],[(.asg (.attr (.loc 0) 32) (.loc 32)),(.asg (.attr (.loc 0) 54) (.loc 54)),(.asg (.attr (.loc 0) 55) (.loc 55)),(.asg (.attr (.loc 0) 56) (.loc 56)),(.asg (.attr (.loc 0) 57) (.loc 57)),(.asg (.attr (.loc 0) 58) (cI 0))])
noncomputable def f31:List Nat×List QS:=([0],[(.asg (.attr (.loc 0) 3) (.list []))])
noncomputable def f32:List Nat×List QS:=([0,1,57,59],[(.expr (.meth (.attr (.loc 0) 3) 0 [(.tup [.loc 1,.loc 57,.loc 59])]))])
noncomputable def f33:List Nat×List QS:=([0,42,60],[(.asg (.attr (.loc 0) 42) (.loc 42)),(.asg (.attr (.loc 0) 60) (.loc 60)),(.asg (.attr (.loc 0) 61) (.list [(.const .none)])),(.asg (.attr (.loc 0) 62) (.list [(.const .none)])),(.asg (.attr (.loc 0) 63) (.dict [])),(.asg (.attr (.loc 0) 64) (.new 4 [])),(.asg (.attr (.loc 0) 65) (.dict [])),(.asg (.attr (.loc 0) 66) (.dict [])),(.asg (.attr (.loc 0) 67) (.dict []))])
noncomputable def f34:List Nat×List QS:=([0],[(.asg (.attr (.loc 0) 68) (.dict [])),(.asg (.attr (.loc 0) 69) (.dict [])),(.asg (.attr (.loc 0) 70) (.dict [])),(.asg (.attr (.loc 0) 71) (.dict []))])
noncomputable def f35:List Nat×List QS:=([0,72,73,9,74,75],[(.ret (.call 42 [(.attr (.loc 0) 68),.loc 72,.loc 73,.loc 9,.loc 74]))])
def f36:List Nat×List QS:=([0,72,73,9,74],[(.ret (.meth (.attr (.loc 72) 77) 79 [.loc 72,.loc 73,.loc 9,.loc 74,cI 0]))])
noncomputable def f37:List Nat×List QS:=([0,9],[(.ret (.bi 1 [.loc 9]))])
def f38:List Nat×List QS:=([0,78,60,47],[(.asg (.attr (.loc 0) 78) (.loc 78)),(.asg (.attr (.loc 0) 42) (.attr (.loc 78) 42)),(.asg (.attr (.loc 0) 18) (.attr (.attr (.loc 78) 42) 18)),(.asg (.attr (.loc 0) 47) (.loc 47)),(.asg (.attr (.loc 0) 60) (.loc 60)),(.asg (.attr (.loc 0) 79) (.dict [])),(.asg (.attr (.loc 0) 80) (.dict [])),(.asg (.attr (.loc 0) 81) (.list [])),(.asg (.attr (.loc 0) 64) (.attr (.loc 78) 64)),(.asg (.attr (.loc 0) 82) (.dict [])),(.asg (.attr (.loc 0) 83) (.dict [])),(.asg (.attr (.loc 0) 36) (.dict [])),(.asg (.attr (.loc 0) 84) (.list [])),(.asg (.attr (.loc 0) 3) (.list [])),(.asg (.attr (.loc 0) 85) (.dict [])),(.asg (.attr (.loc 0) 86) (.const .none)),(.asg (.attr (.loc 0) 30) (cI 0)),(.asg (.attr (.loc 0) 87) (cI 0)),(.asg (.attr (.loc 0) 88) (cI 0)),(.asg (.attr (.loc 0) 89) (cI 0)),(.asg (.attr (.loc 0) 90) (cI 0)),(.asg (.attr (.loc 0) 91) (cI 0)),(.asg (.attr (.loc 0) 92) (.list [])),(.asg (.attr (.loc 0) 93) (cI 0)),(.asg (.attr (.loc 0) 94) (.dict [])),(.asg (.attr (.loc 0) 95) (.list [])),(.asg (.attr (.loc 0) 96) (.new 6 [])),(.asg (.attr (.loc 0) 77) (.new 7 [])),(.asg (.attr (.loc 0) 97) (.new 8 [])),(.asg (.attr (.loc 0) 98) (.new 9 [])),(.asg (.attr (.loc 0) 99) (cI 0)),(.asg (.attr (.loc 0) 100) (cI 0)),(.asg (.attr (.loc 0) 57) (cI 0)),(.asg (.attr (.loc 0) 101) (.dict []))])
noncomputable def f39:List Nat×List QS:=([0,73,9,74],[(.ret (.meth (.attr (.loc 0) 97) 105 [.loc 0,.loc 73,.loc 9,.loc 74]))])
noncomputable def f40:List Nat×List QS:=([0,1,74,59],[(.expr (.meth (.attr (.loc 0) 64) 25 [.loc 1,(.call 44 [.loc 0,.loc 74]),.loc 59]))])
def f41:List Nat×List QS:=([32],[(.ret (.tup [cI 1,cI 15,cI 0]))])
def f42:List Nat×List QS:=([103,72,73,9,74],[(.ite (.bop .Or (.cmp .Eq (.sub (.loc 73) (cI 1)) (.loc 9)) (.bop .Or (.cmp .Eq (.sub (.loc 73) (cI 1)) (cI 15)) (.cmp .Eq (.loc 9) (cI 15)))) [(.ret (.loc 73))] []),(.asg (.name 104) (.meth (.loc 103) 2 [(.tup [(.sub (.loc 73) (cI 1)),.loc 9]),cI 0])),(.ite (.loc 104) [(.ret (.tup [cI 19,.loc 9,.loc 73,.loc 104,(.attr (.loc 72) 90)]))] []),(.expr (.meth (.loc 72) 108 [cI 29,.loc 74,(.tup [(.meth (.loc 72) 109 [(.sub (.loc 73) (cI 1))]),(.meth (.loc 72) 109 [.loc 9])])])),(.ret (.call 41 [.loc 9]))])
def f43:List Nat×List QS:=([73],[(.ret (.cmp .Eq (.sub (.loc 73) (cI 1)) (cI 15)))])
noncomputable def f44:List Nat×List QS:=([72,74],[(.ite (.cmp .Is (.loc 74) (.const .none)) [(.ret (.attr (.loc 72) 57))] []),(.ret (.attr (.loc 74) 57))])
def f45:List Nat×List QS:=([72,1,74,59],[(.expr (.meth (.loc 72) 108 [.loc 1,.loc 74,.loc 59])),(.ret (.call 41 [(.neg (cI 1))]))])
def f46:List Nat×List QS:=([72,57,87],[(.asg (.name 107) (.sub (.attr (.attr (.loc 72) 42) 38) (.loc 87))),(.ite (.cmp .Eq (.bin .BitAnd (.attr (.loc 107) 34) (cI 2)) (cI 0)) [(.ret (.const (.bool false)))] []),(.ite (.bin .BitAnd (.attr (.loc 107) 34) (cI 4)) [(.ret .bad)] []),(.asg (.name 108) (.meth (.attr (.loc 72) 47) 111 [.loc 57])),(.ite (.cmp .Eq (.loc 108) (.neg (cI 1))) [(.ret (.const (.bool false)))] []),(.for_ (.name 109) .bad [(.asg (.name 43) .bad),(.ite (.bop .And (.cmp .IsNot (.loc 43) (.const .none)) .bad) [(.ret (.const (.bool true)))] [])]),(.ret (.const (.bool false)))])
def f47:List Nat×List QS:=([2],[(.ret (.ite (.sub (.loc 2) (cI 2)) (.sub (.loc 2) (cI 2)) (.sub (.loc 2) (cI 3))))])
noncomputable def f48:List Nat×List QS:=([72,9],[(.ite (.call 18 [(.attr (.loc 72) 18),.loc 9]) [(.ret (.meth (.attr (.loc 72) 47) 111 [.loc 9]))] []),(.ret (.loc 9))])
def f49:List Nat×List QS:=([72,74,1],[(.ite (.attr (.loc 72) 88) [(.ret (.call 45 [.loc 72,.loc 1,.loc 74,(.tup [])]))] []),(.ite (.attr (.loc 72) 89) [(.asg (.name 111) (.itec .Eq (.attr (.loc 72) 89) (cI 1) 236 120)),(.ret (.call 45 [.loc 72,(.ite (.cmp .Eq (.loc 1) (cI 26)) (cI 27) (.loc 111)),.loc 74,(.tup [])]))] []),(.asg (.name 9) (.call 25 [(.attr (.loc 72) 42),(.attr (.loc 72) 30)])),(.ite (.bop .And (.cmp .IsNot (.attr (.loc 72) 86) (.const .none)) (.bop .And (.attr (.attr (.loc 72) 86) 109) (.call 16 [(.attr (.loc 72) 18),.loc 9]))) [(.ret (.call 45 [.loc 72,cI 1673,.loc 74,(.tup [])]))] []),(.ret (.tup [cI 3,.loc 9]))])
def f50:List Nat×List QS:=([72,112,113,88,74,31],[(.ite (.loc 88) [(.ite (.cmp .In (.loc 113) (.tup [cI 3,cI 4])) [(.ret (.call 45 [.loc 72,cI 176,.loc 74,(.tup [.loc 31])]))] []),(.ret (.const .none))] []),(.ite (.cmp .Eq (.loc 113) (cI 2)) [(.ret (.call 45 [.loc 72,cI 120,.loc 74,(.tup [.loc 31])]))] []),(.ite (.cmp .Eq (.loc 113) (cI 1)) [(.ret (.call 49 [.loc 72,.loc 74,cI 120]))] []),(.ret (.loc 112))])
def f51:List Nat×List QS:=([72,112,114,113,74],[(.ite (.cmp .Is (.loc 112) (.const .none)) [(.ret (.tup [(.const .none),cI 0]))] []),(.asg (.name 107) (.sub (.attr (.attr (.loc 72) 42) 38) (.sub (.loc 114) (cI 1)))),(.asg (.name 9) (.sub (.loc 112) (cI 1))),(.ite (.cmp .Eq (.loc 113) (cI 4)) [(.ret (.tup [(.ite (.call 16 [(.attr (.loc 72) 18),.loc 9]) (.meth (.loc 72) 119 [.loc 112,cI 12,.loc 74]) (.loc 112)),cI 0]))] []),(.ite (.bop .And (.call 18 [(.attr (.loc 72) 18),.loc 9]) (.call 28 [(.attr (.loc 72) 47),.loc 9])) [(.asg (.name 115) (.ite (.call 29 [(.attr (.loc 72) 47),(.sub (.loc 114) (cI 0))]) (.sub (.loc 114) (cI 0)) (.call 48 [.loc 72,.loc 9]))),(.ret (.tup [(.meth (.loc 72) 119 [.loc 112,.loc 115,.loc 74]),cI 1]))] []),(.ite (.call 18 [(.attr (.loc 72) 18),.loc 9]) [(.ret (.tup [.loc 112,cI 2]))] []),(.ite (.call 16 [(.attr (.loc 72) 18),.loc 9]) [(.ite (.cmp .Eq (.call 14 [(.attr (.loc 72) 18),(.sub (.loc 114) (cI 0))]) (.call 14 [(.attr (.loc 72) 18),.loc 9])) [(.ret (.tup [.loc 112,cI 0]))] []),(.ite (.bin .BitAnd (.attr (.loc 107) 34) (cI 2)) [(.ret (.tup [.loc 112,cI 2]))] []),(.ret (.tup [(.meth (.loc 72) 119 [.loc 112,cI 12,.loc 74]),cI 0]))] []),(.ite (.bop .Or (.bin .BitAnd (.attr (.loc 107) 34) (cI 2)) (.cmp .Eq (.attr .bad 17) (cI 3))) [(.ret (.tup [.loc 112,cI 1]))] []),(.ret (.tup [.loc 112,(.itec .Eq (.sub (.loc 112) (cI 0)) (cI 3) 0 1)]))])
def f52:List Nat×List QS:=([72,29,9,74],[(.asg (.name 2) (.meth (.attr (.attr (.loc 72) 78) 67) 2 [.loc 29])),(.asg (.name 35) (.ite (.cmp .Is (.loc 2) (.const .none)) (.attr (.sub (.attr (.attr (.loc 72) 42) 37) (.loc 29)) 35) (.sub (.loc 2) (cI 1)))),(.ite (.cmp .Is (.loc 35) (.const .none)) [(.ret (.meth (.loc 72) 119 [(.tup [cI 1,cI 14,(.const .none)]),.loc 9,.loc 74]))] []),(.ret (.tup [cI 1,.loc 9,.loc 35]))])
def f53:List Nat×List QS:=([72,10,112,113,74,31],[(.asg (.name 45) (.tup [(.sub (.loc 10) (cI 1)),(.sub (.loc 10) (cI 2))])),(.asg (.name 46) (.sub (.attr (.attr (.loc 72) 42) 37) (.sub (.loc 10) (cI 2)))),(.asg (.name 9) (.call 26 [(.attr (.loc 72) 42),.loc 45])),(.asg (.name 112) (.call 50 [.loc 72,.loc 112,.loc 113,(.cmp .NotEq (.bin .BitAnd (.attr (.loc 46) 34) (cI 1)) (cI 0)),.loc 74,.loc 31])),(.ite (.cmp .Is (.loc 112) (.const .none)) [(.ite (.bin .BitAnd (.attr (.loc 46) 34) (cI 4)) [(.ret (.call 52 [.loc 72,(.sub (.loc 10) (cI 2)),.loc 9,.loc 74]))] []),(.ret (.tup [cI 5,.loc 9,.loc 45]))] []),(.ite (.call 43 [.loc 112]) [(.ret (.loc 112))] []),(.ite (.call 18 [(.attr (.loc 72) 18),(.sub (.loc 112) (cI 1))]) [(.asg (.name 112) (.meth (.loc 72) 119 [.loc 112,(.call 48 [.loc 72,(.sub (.loc 112) (cI 1))]),.loc 74]))] []),(.ret (.tup [cI 4,.loc 9,.loc 112,.loc 45]))])
noncomputable def f54:List Nat×List QS:=([72,57,2,28],[(.ite (.sub (.loc 2) (.loc 28)) [(.ret (.tup [.loc 57,(.sub (.loc 2) (.loc 28)),(.tup [])]))] []),(.ite (.call 46 [.loc 72,.loc 57,(.call 47 [.loc 2])]) [(.ret .bad)] []),(.ret (.tup []))])
def f55:List Nat×List QS:=([72,57,9,2,112,113,19,74],[(.asg (.name 117) (.call 54 [.loc 72,.loc 57,.loc 2,cI 2])),(.asg (.name 118) (.call 54 [.loc 72,.loc 57,.loc 2,cI 3])),(.ite (.cmp .Eq (.loc 113) (cI 4)) [(.asg (.name 117) .bad),(.asg (.name 118) .bad)] []),(.asg (.name 119) (.ite (.loc 117) (.loc 117) (.loc 118))),(.ite (.not (.loc 119)) [(.ret (.call 45 [.loc 72,cI 154,.loc 74,(.tup [(.sub (.loc 2) (cI 0))])]))] []),(.asg (.name 34) (.attr (.sub (.attr (.attr (.loc 72) 42) 38) (.sub (.loc 119) (cI 1))) 34)),(.asg (.name 112) (.call 50 [.loc 72,.loc 112,.loc 113,(.cmp .NotEq (.bin .BitAnd (.loc 34) (cI 1)) (cI 0)),.loc 74,(.sub (.loc 2) (cI 0))])),(.ite (.bop .And (.cmp .IsNot (.loc 112) (.const .none)) (.call 43 [.loc 112])) [(.ret (.loc 112))] []),(.ite (.bop .And (.loc 118) (.bin .BitAnd (.attr (.sub (.attr (.attr (.loc 72) 42) 38) (.sub (.loc 118) (cI 1))) 34) (cI 2))) [(.asg (.name 119) (.loc 118))] []),(.asg (.name 120) (.call 51 [.loc 72,.loc 112,.loc 119,.loc 113,.loc 74])),(.ret (.tup [cI 34,.loc 9,(.sub (.loc 120) (cI 0)),.loc 117,.loc 118,.loc 19,(.sub (.loc 120) (cI 1))]))])
def f56:List Nat×List QS:=([72,10,112,113,24,74,31],[(.ite (.cmp .Eq (.sub (.loc 10) (cI 0)) (cI 4)) [(.ret (.tup [cI 101,cI 15,.loc 112,(.sub (.loc 10) (cI 1)),.loc 113,.loc 24,.loc 31]))] []),(.ite (.cmp .Eq (.sub (.loc 10) (cI 0)) (cI 6)) [(.ret (.call 45 [.loc 72,cI 229,.loc 74,(.tup [.loc 31])]))] []),(.ite (.cmp .Eq (.sub (.loc 10) (cI 0)) (cI 5)) [(.ret (.call 45 [.loc 72,cI 122,.loc 74,(.tup [.loc 31])]))] []),(.ite (.cmp .IsNot (.loc 24) (.const .none)) [(.ret (.call 45 [.loc 72,cI 307,.loc 74,(.tup [.loc 31])]))] []),(.ite (.cmp .Eq (.sub (.loc 10) (cI 0)) (cI 1)) [(.ret (.call 53 [.loc 72,.loc 10,.loc 112,.loc 113,.loc 74,.loc 31]))] []),(.ite (.cmp .Eq (.sub (.loc 10) (cI 0)) (cI 2)) [(.ret (.call 55 [.loc 72,(.sub (.loc 10) (cI 1)),(.sub (.loc 10) (cI 2)),(.sub (.loc 10) (cI 3)),.loc 112,.loc 113,(.tup []),.loc 74]))] []),(.asg (.name 88) (.cmp .NotEq (.bin .BitAnd (.attr (.sub (.attr (.attr (.loc 72) 42) 38) (.sub (.loc 10) (cI 3))) 34) (cI 1)) (cI 0))),(.asg (.name 112) (.call 50 [.loc 72,.loc 112,.loc 113,.loc 88,.loc 74,.loc 31])),(.ite (.bop .And (.cmp .IsNot (.loc 112) (.const .none)) (.call 43 [.loc 112])) [(.ret (.loc 112))] []),(.ret (.tup [cI 102,(.sub (.loc 10) (cI 2)),.loc 112,(.sub (.loc 10) (cI 1)),(.sub (.loc 10) (cI 3)),(.sub (.loc 10) (cI 4)),.loc 113,.loc 31]))])
noncomputable def f57:List Nat×List QS:=([0,18],[(.asg (.attr (.loc 0) 18) (.loc 18)),(.asg (.attr (.loc 0) 121) (.dict [])),(.asg (.attr (.loc 0) 122) (.dict [])),(.asg (.attr (.loc 0) 123) (.dict [])),(.asg (.attr (.loc 0) 124) (.dict [])),(.asg (.attr (.loc 0) 70) (.dict [])),(.asg (.attr (.loc 0) 52) (.dict [])),(.asg (.attr (.loc 0) 53) (.dict [])),(.asg (.attr (.loc 0) 125) (.dict []))])
def f58:List Nat×List QS:=([0,9],[(.ret (.meth (.attr (.loc 0) 121) 2 [.loc 9,(.neg (cI 1))]))])
def f59:List Nat×List QS:=([0,9],[(.ret (.meth (.attr (.loc 0) 123) 2 [(.call 14 [(.attr (.loc 0) 18),.loc 9]),cI 0]))])
noncomputable def f60:List Nat×List QS:=([126],[(.asg (.name 48) (.list [])),(.for_ (.name 127) (.const (.tup [I 6,I 5,I 3,I 4,I 3,I 3,I 8,I 4,I 8,I 2])) [(.expr (.meth (.loc 48) 0 [(.bin .Mod (.loc 126) (.loc 127))])),(.asg (.name 126) (.bin .FloorDiv (.loc 126) (.loc 127)))]),(.ret (.bi 2 [.loc 48]))])
def f61:List Nat×List QS:=([],[(.asg (.name 42) (.new 2 [])),(.asg (.name 18) (.attr (.loc 42) 18)),(.asg (.name 128) (.call 12 [.loc 18,cI 0])),(.asg (.name 108) (.call 10 [.loc 18,cI 21,(.tup [cI 13])])),(.asg (.name 129) (.call 10 [.loc 18,cI 22,(.tup [])])),(.asg (.name 130) (.call 11 [.loc 18,cI 23,(.tup [])])),(.asg (.name 131) (.call 10 [.loc 18,cI 24,(.tup [])])),(.asg (.name 132) (.call 10 [.loc 18,cI 21,(.tup [cI 7])])),(.asg (.name 133) (.call 12 [.loc 18,cI 1])),(.asg (.name 134) (.call 12 [.loc 18,cI 2])),(.asg (.name 135) (.call 12 [.loc 18,cI 3])),(.asg (.name 47) (.new 11 [.loc 18])),(.asg (.attr (.loc 47) 123) (.dict [cI 21,cI 1,cI 22,cI 1,cI 23,cI 2,cI 24,cI 3])),(.asg (.attr (.loc 47) 121) (.dict [.loc 133,.loc 129,.loc 134,cI 12,.loc 135,cI 12])),(.asg (.attr (.loc 47) 52) (.dict [.loc 133,(.tup [.loc 129]),.loc 134,(.tup [.loc 131]),.loc 135,(.tup [.loc 131])])),(.asg (.attr (.loc 47) 53) (.dict [.loc 135,cI 1])),(.asg (.name 136) (.tup [(.tup [.loc 129,.loc 129,cI 22,cI 7]),(.tup [.loc 129,.loc 108,cI 21,cI 13]),(.tup [.loc 132,.loc 132,cI 21,cI 7]),(.tup [.loc 130,.loc 130,cI 23,cI 7]),(.tup [.loc 131,.loc 131,cI 24,cI 7]),(.tup [.loc 133,.loc 108,cI 21,cI 13]),(.tup [.loc 134,.loc 131,cI 24,cI 7]),(.tup [.loc 135,.loc 131,cI 24,cI 7]),(.tup [cI 7,cI 7,cI 15,cI 7]),(.tup [cI 13,cI 12,cI 1,cI 7]),(.tup [cI 12,cI 12,cI 1,cI 7])])),(.ret (.dict [cS "store",.loc 42,cS "host",.loc 47,cS "loose",.loc 128,cS "heir",.loc 129,cS "box",.loc 130,cS "face",.loc 131,cS "firm",.loc 133,cS "other",.loc 134,cS "marked",.loc 135,cS "spots",.loc 136]))])
def f62:List Nat×List QS:=([137,138,31,34],[(.asg (.name 3) (.attr (.sub (.loc 137) (cS "store")) 38)),(.ite (.cmp .Eq (.sub (.loc 138) (cI 2)) (cI 24)) [(.asg (.name 34) (.bin .BitOr (cI 2) (cI 8)))] []),(.expr (.meth (.loc 3) 0 [(.new 1 [(.bi 0 [.loc 3]),(.sub (.loc 138) (cI 2)),.loc 31,cI 0,cI 6,.loc 34])])),(.ret (.bin .Sub (.bi 0 [.loc 3]) (cI 1)))])
def f63:List Nat×List QS:=([137,78,139,138,31],[(.asg (.name 42) (.sub (.loc 137) (cS "store"))),(.asg (.tup [(.name 143),(.name 144)]) (.slice (.loc 139) (cI 3) (cI 5))),(.asg (.name 140) (.ite (.cmp .Eq (.loc 144) (cI 0)) (cI 7) (cI 13))),(.asg (.name 141) (.loc 140)),(.ite (.bop .And (.cmp .NotEq (.loc 143) (cI 2)) (.bop .And (.cmp .Gt (.loc 144) (cI 0)) (.cmp .Eq (.sub (.loc 138) (cI 2)) (cI 21)))) [(.asg (.name 15) (.call 10 [(.attr (.loc 42) 18),cI 21,(.tup [(.sub (.loc 137) (cS "loose"))])])),(.asg (.name 140) (.sub (.tup [(.sub (.loc 137) (cS "loose")),.loc 15]) (.bin .Sub (.loc 144) (cI 1)))),(.asg (.name 141) (.sub (.tup [(.sub (.loc 138) (cI 3)),(.call 10 [(.attr (.loc 42) 18),cI 21,(.tup [(.sub (.loc 138) (cI 3))])])]) (.bin .Sub (.loc 144) (cI 1))))] []),(.asg (.name 29) (.bi 0 [(.attr (.loc 42) 37)])),(.asg (.name 34) (.sub (.tup [cI 0,cI 1,(.bin .BitOr (cI 1) (cI 4)),cI 2]) (.loc 143))),(.expr (.meth (.attr (.loc 42) 37) 0 [(.new 1 [.loc 29,(.sub (.loc 138) (cI 2)),.loc 31,.loc 140,cI 6,.loc 34])])),(.asg (.name 35) (.sub (.tup [cI 5,cS "t",(.const .none)]) (.loc 144))),(.ite (.cmp .Eq (.loc 143) (cI 2)) [(.asg (.attr (.sub (.attr (.loc 42) 37) (.loc 29)) 35) (.loc 35)),(.ite (.cmp .Eq (.bin .Mod (.sub (.loc 139) (cI 8)) (cI 2)) (cI 1)) [(.asg (.name 35) (.sub (.tup [cI 6,(.const .none),cS "u"]) (.loc 144))),(.asg (.sub (.attr (.loc 78) 67) (.loc 29)) (.tup [.loc 140,.loc 35]))] [])] []),(.asg (.name 142) (.dict [cS "static",(.cmp .In (.loc 143) (.tup [cI 1,cI 2])),cS "kind",.loc 141,cS "const",(.cmp .Eq (.loc 143) (cI 2)),cS "value",.loc 35,cS "ref",(.tup [(.sub (.loc 138) (cI 1)),.loc 29])])),(.ret (.tup [(.tup [cI 1,(.sub (.loc 138) (cI 1)),.loc 29]),.loc 142]))])
def f64:List Nat×List QS:=([137,139,138,31],[(.asg (.tup [(.name 143),(.name 144)]) (.slice (.loc 139) (cI 3) (cI 5))),(.asg (.name 145) (.ite (.sub (.loc 139) (cI 9)) (cI 2) (cI 1))),(.ite (.bop .And (.cmp .NotIn (.sub (.loc 138) (cI 0)) (.tup [cI 7,(.sub (.loc 137) (cS "box")),(.sub (.loc 137) (cS "firm")),(.sub (.loc 137) (cS "other")),(.sub (.loc 137) (cS "marked"))])) (.bop .Or (.cmp .Eq (.loc 143) (cI 0)) (.bop .And (.cmp .Eq (.loc 143) (cI 3)) (.cmp .Eq (.loc 144) (.loc 145))))) [(.asg (.name 143) (cI 2))] []),(.asg (.name 146) (.sub (.tup [(.tup [cI 0,cI 0]),(.tup [cI 1,cI 1]),(.tup [cI 2,cI 2]),(.ite (.sub (.loc 139) (cI 9)) (.tup [cI 2,cI 0]) (.tup [cI 0,cI 2]))]) (.loc 143))),(.asg (.name 147) (.list [cI 0,cI 0])),(.for_ (.name 27) (.sub (.tup [(.tup [cI 0,cI 1]),(.tup [cI 0]),(.tup [cI 1])]) (.loc 144)) [(.asg (.sub (.loc 147) (.loc 27)) (.call 62 [.loc 137,.loc 138,(.bin .Add (.sub (.tup [cS "get_",cS "set_"]) (.loc 27)) (.loc 31)),(.sub (.loc 146) (.loc 27))]))]),(.asg (.name 32) (.sub (.tup [cI 13,(.sub (.loc 137) (cS "loose")),(.sub (.loc 137) (cS "box"))]) (.bin .Mod (.sub (.loc 139) (cI 7)) (cI 3)))),(.asgc 148 (.ite (.loc 87) (.tup [(.sub (.loc 138) (cI 1)),.loc 87,(.tup [])]) (.tup [])) 87 (.loc 147) [138]),(.asg (.name 142) (.dict [cS "static",(.bop .And (.cmp .Eq (.loc 143) (cI 1)) (.cmp .NotEq (.sub (.loc 138) (cI 2)) (cI 24))),cS "kind",.loc 32,cS "refs",.loc 148])),(.ret (.tup [(.tup [cI 2,(.sub (.loc 138) (cI 1)),.loc 32,(.tup [.loc 31,.loc 32,(.sub (.loc 147) (cI 0)),(.sub (.loc 147) (cI 1)),(.tup [])])]),.loc 142]))])
def f65:List Nat×List QS:=([137,139,138,31],[(.asg (.name 34) (.sub (.tup [cI 0,cI 1,cI 2,cI 0]) (.sub (.loc 139) (cI 3)))),(.asg (.name 149) (.call 62 [.loc 137,.loc 138,(.bin .Add (cS "add_") (.loc 31)),.loc 34])),(.asg (.name 150) (.call 62 [.loc 137,.loc 138,(.bin .Add (cS "remove_") (.loc 31)),.loc 34])),(.asg (.name 32) (.sub (.tup [(.sub (.loc 137) (cS "heir")),(.sub (.loc 137) (cS "loose")),cI 12]) (.sub (.loc 139) (cI 4)))),(.ret (.tup [(.tup [cI 3,(.sub (.loc 138) (cI 1)),.loc 32,.loc 149,.loc 150]),(.dict [cS "static",(.bop .And (.cmp .Eq (.sub (.loc 139) (cI 3)) (cI 1)) (.cmp .NotEq (.sub (.loc 138) (cI 2)) (cI 24))),cS "kind",.loc 32])]))])
def f66:List Nat×List QS:=([137,78,139,138,31],[(.ite (.cmp .Eq (.sub (.loc 139) (cI 0)) (cI 0)) [(.ret (.call 63 [.loc 137,.loc 78,.loc 139,.loc 138,.loc 31]))] []),(.ite (.cmp .Eq (.sub (.loc 139) (cI 0)) (cI 1)) [(.ret (.call 64 [.loc 137,.loc 139,.loc 138,.loc 31]))] []),(.ite (.cmp .Eq (.sub (.loc 139) (cI 0)) (cI 2)) [(.ret (.call 65 [.loc 137,.loc 139,.loc 138,.loc 31]))] []),(.ite (.cmp .Eq (.sub (.loc 139) (cI 0)) (cI 3)) [(.asg (.name 3) (.tup [(.tup [(.sub (.loc 138) (cI 1)),cI 5,cI 0]),(.tup [cI 12,cI 6,cI 1]),(.tup [(.sub (.loc 138) (cI 0)),cI 5,cI 2])])),(.ret (.tup [(.tup [cI 4,(.slice (.loc 3) (.const .none) (.bin .Add (cI 1) (.sub (.loc 139) (cI 4))))]),(.dict [])]))] []),(.ret (.tup [(.sub (.tup [(.tup [cI 6]),(.tup [cI 5])]) (.bin .Sub (.sub (.loc 139) (cI 0)) (cI 4))),(.dict [])]))])
def f67:List Nat×List QS:=([137,139,113,151],[(.asg (.name 57) (.sub (.loc 139) (cI 6))),(.ite (.cmp .Eq (.loc 113) (cI 1)) [(.asg (.name 57) (.sub (.tup [cI 9,cI 8,cI 10]) (.loc 151)))] [(.ite (.cmp .Eq (.loc 113) (cI 4)) [(.asg (.name 57) (cI 9))] [])]),(.ite (.bop .And (.cmp .Eq (.sub (.loc 139) (cI 0)) (cI 0)) (.cmp .In (.loc 57) (.tup [cI 4,cI 6,cI 7]))) [(.asg (.name 57) (cI 5))] []),(.ret (.sub (.sub (.loc 137) (cS "spots")) (.loc 57)))])
def f68:List Nat×List QS:=([139,113,138],[(.ite (.bop .Or (.cmp .Eq (.loc 113) (cI 1)) (.cmp .Eq (.loc 113) (cI 2))) [(.ret (.const .none))] []),(.asg (.name 9) (.sub (.loc 138) (cI 0))),(.ite (.cmp .Eq (.loc 113) (cI 4)) [(.ret (.tup [cI 3,.loc 9]))] []),(.ret (.sub (.tup [(.tup [cI 2,.loc 9,cI 3]),(.tup [cI 3,.loc 9]),(.tup [cI 8,.loc 9,(.const .none),(.tup [cI 12,cI 1,(.tup [])]),(.tup []),cI 0]),(.tup [cI 2,cI 15,cI 4])]) (.sub (.loc 139) (cI 7))))])
def f69:List Nat×List QS:=([1,59],[(.ret (.tup [(.tup [cI 1,cI 15,cI 0]),(.list [(.tup [.loc 1,.loc 59])])]))])
def f70:List Nat×List QS:=([137,151,152],[(.asg (.name 88) (.cmp .In (.loc 152) (.tup [cI 3,cI 7]))),(.asg (.name 89) (.meth (.dict [cI 4,cI 1,cI 5,cI 2,cI 7,cI 1]) 2 [.loc 152,cI 0])),(.asg (.name 1) (cI 0)),(.ite (.bop .Or (.loc 88) (.cmp .Eq (.loc 89) (cI 2))) [(.asg (.name 1) (cI 120))] [(.ite (.cmp .Eq (.loc 89) (cI 1)) [(.asg (.name 1) (cI 236))] [])]),(.ite (.loc 1) [(.ret (.call 69 [.loc 1,(.tup [])]))] []),(.ret (.tup [(.tup [cI 3,(.sub (.tup [cI 13,cI 7,cI 12]) (.loc 151))]),(.list [])]))])
def f71:List Nat×List QS:=([137,73,9,90],[(.ite (.cmp .In (.tup [(.sub (.loc 73) (cI 1)),.loc 9]) (.sub (.loc 137) (cS "goes"))) [(.ret (.tup [(.tup [cI 19,.loc 9,.loc 73,(.sub (.sub (.loc 137) (cS "goes")) (.tup [(.sub (.loc 73) (cI 1)),.loc 9])),.loc 90]),(.list [])]))] []),(.ret (.call 69 [cI 29,(.tup [(.bi 1 [(.sub (.loc 73) (cI 1))]),(.bi 1 [.loc 9])])]))])
def f72:List Nat×List QS:=([137,112,90],[(.ite (.cmp .In (.sub (.loc 112) (cI 1)) (.tup [(.sub (.loc 137) (cS "box")),cI 7])) [(.ret (.tup [.loc 112,cI 0,(.list [])]))] []),(.ite (.cmp .Eq (.sub (.loc 112) (cI 1)) (.sub (.loc 137) (cS "other"))) [(.ret (.tup [.loc 112,cI 2,(.list [])]))] []),(.ite (.bop .Or (.cmp .Eq (.sub (.loc 112) (cI 1)) (.sub (.loc 137) (cS "firm"))) (.cmp .Eq (.sub (.loc 112) (cI 1)) (.sub (.loc 137) (cS "marked")))) [(.asg (.tup [(.name 73),(.name 81)]) (.call 71 [.loc 137,.loc 112,(.ite (.cmp .Eq (.sub (.loc 112) (cI 1)) (.sub (.loc 137) (cS "firm"))) (.sub (.loc 137) (cS "heir")) (.sub (.loc 137) (cS "face"))),.loc 90])),(.ret (.tup [.loc 73,cI 1,.loc 81]))] []),(.ret (.tup [.loc 112,cI 1,(.list [])]))])
def f73:List Nat×List QS:=([137,139,10,142,113,112,151,31],[(.asg (.name 17) (.sub (.loc 139) (cI 0))),(.ite (.cmp .Eq (.loc 17) (cI 3)) [(.ret (.tup [(.tup [cI 101,cI 15,.loc 112,(.sub (.loc 10) (cI 1)),.loc 113,.loc 31]),(.list [])]))] []),(.ite (.bop .Or (.cmp .Gt (.loc 17) (cI 3)) (.cmp .Eq (.sub (.loc 139) (cI 2)) (cI 2))) [(.ret (.call 69 [(.meth (.dict [cI 4,cI 229,cI 5,cI 122]) 2 [.loc 17,cI 307]),(.tup [.loc 31])]))] []),(.asg (.name 81) (.list [])),(.ite (.sub (.loc 142) (cS "static")) [(.ite (.cmp .In (.loc 113) (.tup [cI 3,cI 4])) [(.ret (.call 69 [cI 176,(.tup [.loc 31])]))] []),(.asg (.name 112) (.const .none))] [(.ite (.cmp .Eq (.loc 113) (cI 2)) [(.ret (.call 69 [cI 120,(.tup [.loc 31])]))] [(.ite (.cmp .Eq (.loc 113) (cI 1)) [(.asg (.tup [(.name 112),(.name 81)]) (.call 70 [.loc 137,.loc 151,(.sub (.loc 139) (cI 8))]))] []),(.ite (.cmp .Eq (.sub (.loc 112) (cI 1)) (cI 15)) [(.ret (.tup [.loc 112,.loc 81]))] [])])]),(.asg (.name 9) (.sub (.loc 142) (cS "kind"))),(.ite (.cmp .Eq (.loc 17) (cI 2)) [(.ret (.tup [(.tup [cI 102,.loc 9,.loc 112,(.sub (.loc 10) (cI 1)),(.sub (.loc 10) (cI 3)),(.sub (.loc 10) (cI 4)),.loc 113,.loc 31]),.loc 81]))] []),(.ite (.cmp .Eq (.loc 17) (cI 1)) [(.asg (.name 153) (cI 0)),(.ite (.cmp .IsNot (.loc 112) (.const .none)) [(.asg (.tup [(.name 112),(.name 153),(.name 81)]) (.call 72 [.loc 137,.loc 112,(.sub (.loc 139) (cI 9))]))] []),(.ret (.tup [(.tup [cI 34,.loc 9,.loc 112,(.sub (.sub (.loc 142) (cS "refs")) (cI 0)),(.sub (.sub (.loc 142) (cS "refs")) (cI 1)),(.tup []),.loc 153]),.loc 81]))] []),(.ite (.bop .And (.cmp .Is (.loc 112) (.const .none)) (.not (.sub (.loc 142) (cS "const")))) [(.ret (.tup [(.tup [cI 5,.loc 9,(.sub (.loc 142) (cS "ref"))]),.loc 81]))] []),(.ite (.cmp .Is (.loc 112) (.const .none)) [(.ite (.cmp .Is (.sub (.loc 142) (cS "value")) (.const .none)) [(.ret (.call 71 [.loc 137,(.tup [cI 1,cI 14,(.const .none)]),.loc 9,(.sub (.loc 139) (cI 9))]))] []),(.ret (.tup [(.tup [cI 1,.loc 9,(.sub (.loc 142) (cS "value"))]),.loc 81]))] []),(.ite (.cmp .Eq (.sub (.loc 112) (cI 1)) (.sub (.loc 137) (cS "firm"))) [(.asg (.tup [(.name 112),(.name 81)]) (.call 71 [.loc 137,.loc 112,(.sub (.loc 137) (cS "heir")),(.sub (.loc 139) (cI 9))]))] []),(.ret (.tup [(.tup [cI 4,.loc 9,.loc 112,(.sub (.loc 142) (cS "ref"))]),.loc 81]))])
def f74:List Nat×List QS:=([137,154,139,57],[(.asg (.name 113) (.sub (.tup [cI 3,cI 1,cI 2,cI 4,cI 5]) (.sub (.loc 139) (cI 1)))),(.ite (.bop .And (.cmp .Eq (.loc 113) (cI 4)) (.cmp .Eq (.sub (.loc 139) (cI 0)) (cI 1))) [(.asg (.name 113) (cI 5))] []),(.asg (.name 151) (.ite (.cmp .Eq (.loc 113) (cI 4)) (cI 0) (.sub (.loc 139) (cI 5)))),(.asg (.name 138) (.call 67 [.loc 137,.loc 139,.loc 113,.loc 151])),(.asg (.name 31) (.bin .Add (cS "m") (.bi 1 [.loc 57]))),(.asg (.tup [(.name 10),(.name 142)]) (.call 66 [.loc 137,(.attr (.loc 154) 78),.loc 139,.loc 138,.loc 31])),(.asg (.name 112) (.call 68 [.loc 139,.loc 113,.loc 138])),(.asg (.name 155) (.ite (.cmp .Eq (.sub (.loc 139) (cI 2)) (cI 2)) (.new 3 [cI 110,cS "",(.list [(.new 3 [cI 7,cS "T",(.list []),cI 0,.loc 57])]),cI 0,.loc 57]) (.const .none))),(.asg (.attr (.loc 154) 30) (.sub (.tup [cI 4,cI 15,cI 1]) (.loc 151))),(.asg (.attr (.loc 154) 88) (.itec .In (.sub (.loc 139) (cI 8)) (.tup [cI 3,cI 7]) 1 0)),(.asg (.attr (.loc 154) 89) (.meth (.dict [cI 4,cI 1,cI 5,cI 2,cI 7,cI 1]) 2 [(.sub (.loc 139) (cI 8)),cI 0])),(.asg (.attr (.loc 154) 90) (.sub (.loc 139) (cI 9))),(.asg (.tup [(.name 157),(.name 81)]) (.call 73 [.loc 137,.loc 139,.loc 10,.loc 142,.loc 113,.loc 112,.loc 151,.loc 31])),(.for_ (.tup [(.name 1),(.name 59)]) (.loc 81) [(.expr (.meth (.sub (.loc 137) (cS "told")) 0 [(.tup [.loc 1,.loc 57,.loc 59])]))]),(.asg (.name 156) (.call 56 [.loc 154,.loc 10,.loc 112,.loc 113,.loc 155,(.new 3 [cI 7,.loc 31,(.list []),cI 0,.loc 57]),.loc 31])),(.ite (.cmp .Eq (.sub (.loc 139) (cI 0)) (cI 3)) [(.ite (.bop .Or (.cmp .NotEq (.bi 0 [.loc 156]) (cI 7)) (.cmp .IsNot (.sub (.loc 156) (cI 5)) (.loc 155))) [(.ret (.const (.bool false)))] []),(.asg (.name 156) (.bin .Add (.slice (.loc 156) (.const .none) (cI 5)) (.slice (.loc 156) (cI 6) (.const .none))))] []),(.ret (.bop .And (.cmp .Eq (.loc 156) (.loc 157)) (.cmp .Eq (.attr (.attr (.attr (.loc 154) 78) 64) 3) (.sub (.loc 137) (cS "told")))))])
def F:List (List Nat×List QS):=[f0,f1,f2,f3,f4,f5,f6,f7,f8,f9,f10,f11,f12,f13,f14,f15,f16,f17,f18,f19,f20,f21,f22,f23,f24,f25,f26,f27,f28,f29,f30,f31,f32,f33,f34,f35,f36,f37,f38,f39,f40,f41,f42,f43,f44,f45,f46,f47,f48,f49,f50,f51,f52,f53,f54,f55,f56,f57,f58,f59,f60,f61,f62,f63,f64,f65,f66,f67,f68,f69,f70,f71,f72,f73,f74]
noncomputable def JB:List Addr:=[105,112,119,133,140,147,154,161,168,175,182,189,203,210,224,231,238,245,252,259,266,273,287,308,329,343,385,400,407,414,555,576,583,616,665,672,763,826,894,922,936,983,990,997,1004,1025,1030,1044,1051,1058,1065,1072,1079,1086,1105,1119,1126,1140,1147,1161,1221,1228,1235,1242,1247,1254,1261,1268,1275,1282,1289,1296,1303,1310,1317]
noncomputable def Jrp:List Addr:=[122,311,332,558,598,619,647,745,766,787,974,1185]
theorem fr0 (P:Params):Ji (H.K P) 105 f0 (46,1):=⟨⟨104,(H.t H.q154),(H.s H.z190 299),H.z180,H.z233,by kernel_rfl,by kernel_rfl⟩,by kernel_rfl,by kernel_rfl,by kernel_rfl⟩
theorem fr1 (P:Params):Ji (H.K P) 112 f1 (46,2):=⟨⟨111,(H.t H.q154),(H.s H.z190 299),H.z230,H.z234,by kernel_rfl,by kernel_rfl⟩,by kernel_rfl,by kernel_rfl,by kernel_rfl⟩
theorem fr2 (P:Params):Ji (H.K P) 119 f2 (46,3):=⟨⟨118,(H.t H.q154),(H.s H.z190 299),H.z231,H.z241,by kernel_rfl,by kernel_rfl⟩,by kernel_rfl,by kernel_rfl,by kernel_rfl⟩
theorem fr3 (P:Params):Ji (H.K P) 133 f3 (47,0):=⟨⟨132,(H.t H.q154),(H.s H.z190 299),H.z227,H.z227,by kernel_rfl,by kernel_rfl⟩,by kernel_rfl,by kernel_rfl,by kernel_rfl⟩
theorem fr4 (P:Params):Ji (H.K P) 140 f4 (48,0):=⟨⟨139,(H.t H.q154),(H.s H.z190 299),H.z228,H.z228,by kernel_rfl,by kernel_rfl⟩,by kernel_rfl,by kernel_rfl,by kernel_rfl⟩
theorem fr5 (P:Params):Ji (H.K P) 147 f5 (49,0):=⟨⟨146,(H.t H.q154),(H.s H.z190 299),H.z229,H.z229,by kernel_rfl,by kernel_rfl⟩,by kernel_rfl,by kernel_rfl,by kernel_rfl⟩
theorem fr6 (P:Params):Ji (H.K P) 154 f6 (50,0):=⟨⟨153,(H.t H.q154),(H.s H.z190 299),H.z249,H.z249,by kernel_rfl,by kernel_rfl⟩,by kernel_rfl,by kernel_rfl,by kernel_rfl⟩
theorem fr7 (P:Params):Ji (H.K P) 161 f7 (51,0):=⟨⟨160,(H.t H.q154),(H.s H.z190 299),H.z250,H.z250,by kernel_rfl,by kernel_rfl⟩,by kernel_rfl,by kernel_rfl,by kernel_rfl⟩
theorem fr8 (P:Params):Ji (H.K P) 168 f8 (52,0):=⟨⟨167,(H.t H.q154),(H.s H.z190 299),H.z251,H.z251,by kernel_rfl,by kernel_rfl⟩,by kernel_rfl,by kernel_rfl,by kernel_rfl⟩
theorem fr9 (P:Params):Ji (H.K P) 175 f9 (53,0):=⟨⟨174,(H.t H.q154),(H.s H.z190 299),H.z252,H.z252,by kernel_rfl,by kernel_rfl⟩,by kernel_rfl,by kernel_rfl,by kernel_rfl⟩
theorem JKE (P:Params):Ji (H.K P) 182 f10 (54,0):=⟨⟨181,(H.t H.q154),(H.s H.z190 299),H.z253,H.z253,by kernel_rfl,by kernel_rfl⟩,by kernel_rfl,by kernel_rfl,by kernel_rfl⟩
theorem JJY (P:Params):Ji (H.K P) 189 f11 (55,0):=⟨⟨188,(H.t H.q154),(H.s H.z190 299),H.z254,H.z254,by kernel_rfl,by kernel_rfl⟩,by kernel_rfl,by kernel_rfl,by kernel_rfl⟩
theorem JL9 (P:Params):Ji (H.K P) 203 f12 (57,0):=⟨⟨202,(H.t H.q154),(H.s H.z190 299),H.z256,H.z256,by kernel_rfl,by kernel_rfl⟩,by kernel_rfl,by kernel_rfl,by kernel_rfl⟩
theorem JHv (P:Params):Ji (H.K P) 210 f13 (58,0):=⟨⟨209,(H.t H.q154),(H.s H.z190 299),H.z257,H.z257,by kernel_rfl,by kernel_rfl⟩,by kernel_rfl,by kernel_rfl,by kernel_rfl⟩
theorem JKO (P:Params):Ji (H.K P) 224 f14 (60,0):=⟨⟨223,(H.t H.q154),(H.s H.z190 299),H.z259,H.z259,by kernel_rfl,by kernel_rfl⟩,by kernel_rfl,by kernel_rfl,by kernel_rfl⟩
theorem JJc (P:Params):Ji (H.K P) 231 f15 (61,0):=⟨⟨230,(H.t H.q154),(H.s H.z190 299),H.z260,H.z260,by kernel_rfl,by kernel_rfl⟩,by kernel_rfl,by kernel_rfl,by kernel_rfl⟩
theorem JJm (P:Params):Ji (H.K P) 238 f16 (62,0):=⟨⟨237,(H.t H.q154),(H.s H.z190 299),H.z261,H.z261,by kernel_rfl,by kernel_rfl⟩,by kernel_rfl,by kernel_rfl,by kernel_rfl⟩
theorem JLf (P:Params):Ji (H.K P) 245 f17 (63,0):=⟨⟨244,(H.t H.q154),(H.s H.z190 299),H.z268,H.z268,by kernel_rfl,by kernel_rfl⟩,by kernel_rfl,by kernel_rfl,by kernel_rfl⟩
theorem JK3 (P:Params):Ji (H.K P) 252 f18 (64,0):=⟨⟨251,(H.t H.q154),(H.s H.z190 299),H.z269,H.z269,by kernel_rfl,by kernel_rfl⟩,by kernel_rfl,by kernel_rfl,by kernel_rfl⟩
theorem JJA (P:Params):Ji (H.K P) 259 f19 (65,0):=⟨⟨258,(H.t H.q154),(H.s H.z190 299),H.z270,H.z270,by kernel_rfl,by kernel_rfl⟩,by kernel_rfl,by kernel_rfl,by kernel_rfl⟩
theorem JJq (P:Params):Ji (H.K P) 266 f20 (66,0):=⟨⟨265,(H.t H.q154),(H.s H.z190 299),H.z271,H.z271,by kernel_rfl,by kernel_rfl⟩,by kernel_rfl,by kernel_rfl,by kernel_rfl⟩
theorem JIL (P:Params):Ji (H.K P) 273 f21 (67,0):=⟨⟨272,(H.t H.q154),(H.s H.z190 299),H.z272,H.z272,by kernel_rfl,by kernel_rfl⟩,by kernel_rfl,by kernel_rfl,by kernel_rfl⟩
theorem JMt (P:Params):Ji (H.K P) 287 f22 (69,0):=⟨⟨286,(H.t H.q154),(H.s H.z190 299),H.z274,H.z274,by kernel_rfl,by kernel_rfl⟩,by kernel_rfl,by kernel_rfl,by kernel_rfl⟩
theorem JGV (P:Params):Ji (H.K P) 308 f23 (89,1):=⟨⟨307,(H.t H.q154),(H.s H.z267 696),H.z180,H.z307,by kernel_rfl,by kernel_rfl⟩,by kernel_rfl,by kernel_rfl,by kernel_rfl⟩
theorem JHZ (P:Params):Ji (H.K P) 329 f24 (90,1):=⟨⟨328,(H.t H.q154),(H.s H.z267 696),H.z180,H.z315,by kernel_rfl,by kernel_rfl⟩,by kernel_rfl,by kernel_rfl,by kernel_rfl⟩
theorem JMw (P:Params):Ji (H.K P) 343 f25 (91,0):=⟨⟨342,(H.t H.q154),(H.s H.z267 696),H.z310,H.z310,by kernel_rfl,by kernel_rfl⟩,by kernel_rfl,by kernel_rfl,by kernel_rfl⟩
theorem JG6 (P:Params):Ji (H.K P) 385 f26 (97,0):=⟨⟨384,(H.t H.q154),(H.s H.z267 696),H.z327,H.z327,by kernel_rfl,by kernel_rfl⟩,by kernel_rfl,by kernel_rfl,by kernel_rfl⟩
theorem JKG (P:Params):Ji (H.K P) 400 f27 (107,0):=⟨⟨399,(H.t H.q154),(H.s H.z348 897),H.z336,H.z336,by kernel_rfl,by kernel_rfl⟩,by kernel_rfl,by kernel_rfl,by kernel_rfl⟩
theorem JJb (P:Params):Ji (H.K P) 407 f28 (108,0):=⟨⟨406,(H.t H.q154),(H.s H.z348 897),H.z337,H.z337,by kernel_rfl,by kernel_rfl⟩,by kernel_rfl,by kernel_rfl,by kernel_rfl⟩
theorem JM1 (P:Params):Ji (H.K P) 414 f29 (109,0):=⟨⟨413,(H.t H.q154),(H.s H.z348 897),H.z338,H.z338,by kernel_rfl,by kernel_rfl⟩,by kernel_rfl,by kernel_rfl,by kernel_rfl⟩
theorem JNk (P:Params):Ji (H.K P) 555 f30 (133,1):=⟨⟨554,(H.t H.q154),(H.s H.z358 1156),H.z180,H.z399,by kernel_rfl,by kernel_rfl⟩,by kernel_rfl,by kernel_rfl,by kernel_rfl⟩
theorem JHR (P:Params):Ji (H.K P) 576 f31 (134,1):=⟨⟨575,(H.t H.q154),(H.s H.z358 1156),H.z180,H.z413,by kernel_rfl,by kernel_rfl⟩,by kernel_rfl,by kernel_rfl,by kernel_rfl⟩
theorem JMR (P:Params):Ji (H.K P) 583 f32 (134,2):=⟨⟨582,(H.t H.q154),(H.s H.z358 1156),H.z231,H.z415,by kernel_rfl,by kernel_rfl⟩,by kernel_rfl,by kernel_rfl,by kernel_rfl⟩
theorem JMo (P:Params):Ji (H.K P) 616 f33 (147,1):=⟨⟨615,(H.t H.q154),(H.s H.z401 1252),H.z180,H.z426,by kernel_rfl,by kernel_rfl⟩,by kernel_rfl,by kernel_rfl,by kernel_rfl⟩
theorem JIK (P:Params):Ji (H.K P) 665 f34 (151,1):=⟨⟨664,(H.t H.q154),(H.s H.z419 1314),H.z180,H.z452,by kernel_rfl,by kernel_rfl⟩,by kernel_rfl,by kernel_rfl,by kernel_rfl⟩
theorem JJM (P:Params):Ji (H.K P) 672 f35 (151,2):=⟨⟨671,(H.t H.q154),(H.s H.z419 1314),H.z442,H.z455,by kernel_rfl,by kernel_rfl⟩,by kernel_rfl,by kernel_rfl,by kernel_rfl⟩
theorem JNh (P:Params):Ji (H.K P) 763 f36 (152,1):=⟨⟨762,(H.t H.q154),(H.s H.z419 1314),H.z474,H.z475,by kernel_rfl,by kernel_rfl⟩,by kernel_rfl,by kernel_rfl,by kernel_rfl⟩
theorem JLO (P:Params):Ji (H.K P) 826 f37 (154,4):=⟨⟨825,(H.t H.q154),(H.s H.z419 1314),H.z481,H.z486,by kernel_rfl,by kernel_rfl⟩,by kernel_rfl,by kernel_rfl,by kernel_rfl⟩
theorem JJC (P:Params):Ji (H.K P) 894 f38 (156,1):=⟨⟨893,(H.t H.q154),(H.s H.z419 1314),H.z180,H.z512,by kernel_rfl,by kernel_rfl⟩,by kernel_rfl,by kernel_rfl,by kernel_rfl⟩
theorem JL2 (P:Params):Ji (H.K P) 922 f39 (156,5):=⟨⟨921,(H.t H.q154),(H.s H.z419 1314),H.z434,H.z516,by kernel_rfl,by kernel_rfl⟩,by kernel_rfl,by kernel_rfl,by kernel_rfl⟩
theorem JIh (P:Params):Ji (H.K P) 936 f40 (156,7):=⟨⟨935,(H.t H.q154),(H.s H.z419 1314),H.z480,H.z518,by kernel_rfl,by kernel_rfl⟩,by kernel_rfl,by kernel_rfl,by kernel_rfl⟩
theorem JJE (P:Params):Ji (H.K P) 983 f41 (157,0):=⟨⟨982,(H.t H.q154),(H.s H.z419 1314),H.z536,H.z536,by kernel_rfl,by kernel_rfl⟩,by kernel_rfl,by kernel_rfl,by kernel_rfl⟩
theorem JLb (P:Params):Ji (H.K P) 990 f42 (158,0):=⟨⟨989,(H.t H.q154),(H.s H.z419 1314),H.z537,H.z537,by kernel_rfl,by kernel_rfl⟩,by kernel_rfl,by kernel_rfl,by kernel_rfl⟩
theorem JLs (P:Params):Ji (H.K P) 997 f43 (159,0):=⟨⟨996,(H.t H.q154),(H.s H.z419 1314),H.z538,H.z538,by kernel_rfl,by kernel_rfl⟩,by kernel_rfl,by kernel_rfl,by kernel_rfl⟩
theorem JMz (P:Params):Ji (H.K P) 1004 f44 (160,0):=⟨⟨1003,(H.t H.q154),(H.s H.z419 1314),H.z539,H.z539,by kernel_rfl,by kernel_rfl⟩,by kernel_rfl,by kernel_rfl,by kernel_rfl⟩
theorem JIz (P:Params):Ji (H.K P) 1025 f45 (177,0):=⟨⟨1024,(H.t H.q154),(H.s H.z535 1922),H.z555,H.z555,by kernel_rfl,by kernel_rfl⟩,by kernel_rfl,by kernel_rfl,by kernel_rfl⟩
theorem JLm (P:Params):Ji (H.K P) 1030 f46 (178,0):=⟨⟨1029,(H.t H.q154),(H.s H.z535 1922),H.z556,H.z556,by kernel_rfl,by kernel_rfl⟩,by kernel_rfl,by kernel_rfl,by kernel_rfl⟩
theorem JLP (P:Params):Ji (H.K P) 1044 f47 (180,0):=⟨⟨1043,(H.t H.q154),(H.s H.z535 1922),H.z561,H.z561,by kernel_rfl,by kernel_rfl⟩,by kernel_rfl,by kernel_rfl,by kernel_rfl⟩
theorem JG1 (P:Params):Ji (H.K P) 1051 f48 (181,0):=⟨⟨1050,(H.t H.q154),(H.s H.z535 1922),H.z562,H.z562,by kernel_rfl,by kernel_rfl⟩,by kernel_rfl,by kernel_rfl,by kernel_rfl⟩
theorem JIU (P:Params):Ji (H.K P) 1058 f49 (182,0):=⟨⟨1057,(H.t H.q154),(H.s H.z535 1922),H.z563,H.z563,by kernel_rfl,by kernel_rfl⟩,by kernel_rfl,by kernel_rfl,by kernel_rfl⟩
theorem JHw (P:Params):Ji (H.K P) 1065 f50 (183,0):=⟨⟨1064,(H.t H.q154),(H.s H.z535 1922),H.z564,H.z564,by kernel_rfl,by kernel_rfl⟩,by kernel_rfl,by kernel_rfl,by kernel_rfl⟩
theorem JKQ (P:Params):Ji (H.K P) 1072 f51 (184,0):=⟨⟨1071,(H.t H.q154),(H.s H.z535 1922),H.z565,H.z565,by kernel_rfl,by kernel_rfl⟩,by kernel_rfl,by kernel_rfl,by kernel_rfl⟩
theorem JH1 (P:Params):Ji (H.K P) 1079 f52 (185,0):=⟨⟨1078,(H.t H.q154),(H.s H.z535 1922),H.z566,H.z566,by kernel_rfl,by kernel_rfl⟩,by kernel_rfl,by kernel_rfl,by kernel_rfl⟩
theorem JIR (P:Params):Ji (H.K P) 1086 f53 (186,0):=⟨⟨1085,(H.t H.q154),(H.s H.z535 1922),H.z567,H.z567,by kernel_rfl,by kernel_rfl⟩,by kernel_rfl,by kernel_rfl,by kernel_rfl⟩
theorem JJW (P:Params):Ji (H.K P) 1105 f54 (189,0):=⟨⟨1104,(H.t H.q154),(H.s H.z535 1922),H.z570,H.z570,by kernel_rfl,by kernel_rfl⟩,by kernel_rfl,by kernel_rfl,by kernel_rfl⟩
theorem JMF (P:Params):Ji (H.K P) 1119 f55 (191,0):=⟨⟨1118,(H.t H.q154),(H.s H.z535 1922),H.z578,H.z578,by kernel_rfl,by kernel_rfl⟩,by kernel_rfl,by kernel_rfl,by kernel_rfl⟩
theorem JIS (P:Params):Ji (H.K P) 1126 f56 (192,0):=⟨⟨1125,(H.t H.q154),(H.s H.z535 1922),H.z579,H.z579,by kernel_rfl,by kernel_rfl⟩,by kernel_rfl,by kernel_rfl,by kernel_rfl⟩
theorem JLW (P:Params):Ji (H.K P) 1140 f57 (194,1):=⟨⟨1139,(H.t H.q154),(H.s H.z577 2128),H.z180,H.z588,by kernel_rfl,by kernel_rfl⟩,by kernel_rfl,by kernel_rfl,by kernel_rfl⟩
theorem JMc (P:Params):Ji (H.K P) 1147 f58 (194,2):=⟨⟨1146,(H.t H.q154),(H.s H.z577 2128),H.z374,H.z589,by kernel_rfl,by kernel_rfl⟩,by kernel_rfl,by kernel_rfl,by kernel_rfl⟩
theorem JNi (P:Params):Ji (H.K P) 1161 f59 (194,4):=⟨⟨1160,(H.t H.q154),(H.s H.z577 2128),H.z248,H.z591,by kernel_rfl,by kernel_rfl⟩,by kernel_rfl,by kernel_rfl,by kernel_rfl⟩
theorem JHE (P:Params):Ji (H.K P) 1221 f60 (198,0):=⟨⟨1220,(H.t H.q154),(H.s H.z602 2215),H.z605,H.z605,by kernel_rfl,by kernel_rfl⟩,by kernel_rfl,by kernel_rfl,by kernel_rfl⟩
theorem JJB (P:Params):Ji (H.K P) 1228 f61 (199,0):=⟨⟨1227,(H.t H.q154),(H.s H.z602 2215),H.z606,H.z606,by kernel_rfl,by kernel_rfl⟩,by kernel_rfl,by kernel_rfl,by kernel_rfl⟩
theorem JIX (P:Params):Ji (H.K P) 1235 f62 (200,0):=⟨⟨1234,(H.t H.q154),(H.s H.z602 2215),H.z615,H.z615,by kernel_rfl,by kernel_rfl⟩,by kernel_rfl,by kernel_rfl,by kernel_rfl⟩
theorem JIb (P:Params):Ji (H.K P) 1242 f63 (201,0):=⟨⟨1241,(H.t H.q154),(H.s H.z602 2215),H.z616,H.z616,by kernel_rfl,by kernel_rfl⟩,by kernel_rfl,by kernel_rfl,by kernel_rfl⟩
theorem JJk (P:Params):Ji (H.K P) 1247 f64 (202,0):=⟨⟨1246,(H.t H.q154),(H.s H.z602 2215),H.z617,H.z617,by kernel_rfl,by kernel_rfl⟩,by kernel_rfl,by kernel_rfl,by kernel_rfl⟩
theorem JIl (P:Params):Ji (H.K P) 1254 f65 (203,0):=⟨⟨1253,(H.t H.q154),(H.s H.z602 2215),H.z618,H.z618,by kernel_rfl,by kernel_rfl⟩,by kernel_rfl,by kernel_rfl,by kernel_rfl⟩
theorem JL0 (P:Params):Ji (H.K P) 1261 f66 (204,0):=⟨⟨1260,(H.t H.q154),(H.s H.z602 2215),H.z619,H.z619,by kernel_rfl,by kernel_rfl⟩,by kernel_rfl,by kernel_rfl,by kernel_rfl⟩
theorem JIJ (P:Params):Ji (H.K P) 1268 f67 (205,0):=⟨⟨1267,(H.t H.q154),(H.s H.z602 2215),H.z620,H.z620,by kernel_rfl,by kernel_rfl⟩,by kernel_rfl,by kernel_rfl,by kernel_rfl⟩
theorem JKu (P:Params):Ji (H.K P) 1275 f68 (206,0):=⟨⟨1274,(H.t H.q154),(H.s H.z602 2215),H.z621,H.z621,by kernel_rfl,by kernel_rfl⟩,by kernel_rfl,by kernel_rfl,by kernel_rfl⟩
theorem JKB (P:Params):Ji (H.K P) 1282 f69 (207,0):=⟨⟨1281,(H.t H.q154),(H.s H.z602 2215),H.z622,H.z622,by kernel_rfl,by kernel_rfl⟩,by kernel_rfl,by kernel_rfl,by kernel_rfl⟩
theorem JKI (P:Params):Ji (H.K P) 1289 f70 (208,0):=⟨⟨1288,(H.t H.q154),(H.s H.z602 2215),H.z623,H.z623,by kernel_rfl,by kernel_rfl⟩,by kernel_rfl,by kernel_rfl,by kernel_rfl⟩
theorem JK1 (P:Params):Ji (H.K P) 1296 f71 (209,0):=⟨⟨1295,(H.t H.q154),(H.s H.z602 2215),H.z624,H.z624,by kernel_rfl,by kernel_rfl⟩,by kernel_rfl,by kernel_rfl,by kernel_rfl⟩
theorem JJx (P:Params):Ji (H.K P) 1303 f72 (210,0):=⟨⟨1302,(H.t H.q154),(H.s H.z602 2215),H.z625,H.z625,by kernel_rfl,by kernel_rfl⟩,by kernel_rfl,by kernel_rfl,by kernel_rfl⟩
theorem JHU (P:Params):Ji (H.K P) 1310 f73 (211,0):=⟨⟨1309,(H.t H.q154),(H.s H.z602 2215),H.z638,H.z638,by kernel_rfl,by kernel_rfl⟩,by kernel_rfl,by kernel_rfl,by kernel_rfl⟩
theorem JLh (P:Params):Ji (H.K P) 1317 f74 (212,0):=⟨⟨1316,(H.t H.q154),(H.s H.z602 2215),H.z639,H.z639,by kernel_rfl,by kernel_rfl⟩,by kernel_rfl,by kernel_rfl,by kernel_rfl⟩
theorem Jpp (P:Params):Jcy (H.K P) JB F:=.cons (fr0 P) <| .cons (fr1 P) <| .cons (fr2 P) <| .cons (fr3 P) <| .cons (fr4 P) <| .cons (fr5 P) <| .cons (fr6 P) <| .cons (fr7 P) <| .cons (fr8 P) <| .cons (fr9 P) <| .cons (JKE P) <| .cons (JJY P) <| .cons (JL9 P) <| .cons (JHv P) <| .cons (JKO P) <| .cons (JJc P) <| .cons (JJm P) <| .cons (JLf P) <| .cons (JK3 P) <| .cons (JJA P) <| .cons (JJq P) <| .cons (JIL P) <| .cons (JMt P) <| .cons (JGV P) <| .cons (JHZ P) <| .cons (JMw P) <| .cons (JG6 P) <| .cons (JKG P) <| .cons (JJb P) <| .cons (JM1 P) <| .cons (JNk P) <| .cons (JHR P) <| .cons (JMR P) <| .cons (JMo P) <| .cons (JIK P) <| .cons (JJM P) <| .cons (JNh P) <| .cons (JLO P) <| .cons (JJC P) <| .cons (JL2 P) <| .cons (JIh P) <| .cons (JJE P) <| .cons (JLb P) <| .cons (JLs P) <| .cons (JMz P) <| .cons (JIz P) <| .cons (JLm P) <| .cons (JLP P) <| .cons (JG1 P) <| .cons (JIU P) <| .cons (JHw P) <| .cons (JKQ P) <| .cons (JH1 P) <| .cons (JIR P) <| .cons (JJW P) <| .cons (JMF P) <| .cons (JIS P) <| .cons (JLW P) <| .cons (JMc P) <| .cons (JNi P) <| .cons (JHE P) <| .cons (JJB P) <| .cons (JIX P) <| .cons (JIb P) <| .cons (JJk P) <| .cons (JIl P) <| .cons (JL0 P) <| .cons (JIJ P) <| .cons (JKu P) <| .cons (JKB P) <| .cons (JKI P) <| .cons (JK1 P) <| .cons (JJx P) <| .cons (JHU P) <| .cons (JLh P) <| .nil
theorem JvQ (P:Params):Jl9 (fun cl A0=>Jtc (H.K P) JB A0 cl) C Jrp=true:=by kernel_rfl
theorem Jqd (P:Params):Jl9 (fun cl A0=>Jne (H.K P) JB A0 cl) C Jrp=true:=by kernel_rfl
theorem Jrc (P:Params):Jw (Jhi (H.K P) JB Jrp) G=true:=by kernel_rfl
theorem Jrb (P:Params):Jw (fun fa=>keepIn (H.K P) (.ref fa)) JB=true:=by kernel_rfl
theorem JlB (P:Params):∃ o,(H.K P).lookup mainGlobals=some o:=⟨H.o878 P,by kernel_rfl⟩
theorem Jvy (P:Params):(H.K P).lookup sysModules=some (H.o1 P):=by kernel_rfl
noncomputable def Jfx (h:Heap)(d:Addr)(es:Array DictEntry)(ep:Nat):Prop:=∃ o,h.get? d=some o∧o.cls=.type "dict"∧o.data=.dict es ep
section
variable {prog:Program}{w:World}{A:Around}{E:Value→Shared→Prop}{s:Shared}{d it:Addr}{es:Array DictEntry}{ep i:Nat}
theorem JkO {Q:Value→Shared→Prop}(hd:d≠sysModules)(hm:Jfx s.heap d es ep)
  (hQ:Q (.ref s.heap.objs.size) { s with heap:=s.heap.push { cls:=.type "dict_keyiterator",data:=.fields #[.ref d,.int 0 0,.int es.size 0,.int ep 0] } }):wpAny (model prog w) A (pyIter (.ref d)) Q E s:=by
 obtain⟨o,ho,hc,hdat⟩:=id hm;have hT:s.TypeIs (.ref d) "dict":=⟨o,ho,hc⟩;have hd':(d==sysModules)=false:=beq_eq_false_iff_ne.mpr hd;refine wpAny_pyIter_slot hT F.slot_dict_iter (wpAny_call_entry F.slot_dict_iter hT F.entry_dict_iter ?_ (F.args_dict_iter_1 _));unfold Builtin.«dict.__iter__» Builtin.Dict.dictSlotNone;refine wpAny_bind (wpAny_bind (wpAny_notOrdered_dict hT ?_));show wpAny _ _ (pure (Value.ref d)) _ _ s;refine wpAny_pure ?_;show wpAny _ _ (Builtin.Dict.showsAll d >>= _) _ _ s;unfold Builtin.Dict.showsAll;rw[if_neg (by rw[hd']; exact Bool.false_ne_true)];refine wpAny_bind (wpAny_pure (wpAny_bind (wpAny_dictEntries ho hdat (wpAny_bind (wpAny_dictEpoch ho hdat ?_)))));refine wpAny_bind (wpAny_newObj_type (wpAny_pure ⟨_,rfl,"dict_keyiterator",_,⟨_,Heap.get?_push_size _ rfl,rfl⟩,F.slot_dict_keyiterator_next.lookup,?_⟩))
 simpa [rawInt] using hQ
theorem Jfk {Q:Option Value→Shared→Prop}{e:DictEntry}(hit:s.heap.IsKeyIter it d i es.size ep)(hm:Jfx s.heap d es ep)(hx:es[i]?=some e)
  (hQ:∀ h',h'.IsKeyIter it d (i+1) es.size ep→Heap.SameBut it s.heap h'→Q (some e.key) { s with heap:=h' }):wpAny (model prog w) A (pyNext (.ref it)) Q E s:=by
 obtain⟨o,ho,hc,hd⟩:=id hit;obtain⟨od,hod,hcd,hdd⟩:=id hm;have hlt:i<es.size:=(Array.getElem?_eq_some_iff.mp hx).1;have he:es[i]=e:=(Array.getElem?_eq_some_iff.mp hx).2;unfold pyNext;refine wpAny_bind (wpAny_attempt (wpAny_callSpecial?_slot (name:=Str.ofString "__next__") hit.typeIs F.slot_dict_keyiterator_next
  (wpAny_call_entry F.slot_dict_keyiterator_next hit.typeIs F.entry_dict_keyiterator_next ?_ (F.args_dict_keyiterator_next_1 _))))
 refine wpAny_bind (wpAny_pure (wpAny_bind (wpAny_bind ?_)))
 first | refine wpAny_bind (wpAny_typeNameOfWhole_keyiter hit.typeIs (wpAny_pure ?_)) | refine wpAny_bind (wpAny_typeNameOf_keyiter hit.typeIs (wpAny_pure ?_))
 refine wpAny_bind (wpAny_fieldsOf ho hd ?_);show wpAny _ _ (if (Value.ref d==Value.none)=true then _ else _) _ _ s;rw[if_neg (show ¬ ((Value.ref d==Value.none)=true) from Bool.false_ne_true)];refine wpAny_bind (wpAny_pure (wpAny_bind (wpAny_dictEntries hod hdd ?_)));rw[if_neg (by simp)];refine wpAny_bind (wpAny_pure (wpAny_bind (wpAny_dictEpoch hod hdd ?_)));rw[if_neg (by simp)];refine wpAny_pure ?_;have hm:(if (i:Int)<0 then none else es[(i:Int).toNat]?)=some es[i]:=by rw[if_neg (by omega),Int.toNat_natCast]; exact Array.getElem?_eq_getElem hlt
 dsimp only;rw[hm];refine wpAny_bind ?_
 first | refine wpAny_bind (wpAny_typeNameOfWhole_keyiter hit.typeIs (wpAny_pure ?_)) | refine wpAny_bind (wpAny_typeNameOf_keyiter hit.typeIs (wpAny_pure ?_))
 refine wpAny_bind (wpAny_isOneOf_keyiter hit.typeIs ?_);show wpAny _ _ (setField (.ref it) 1 (rawInt ((i:Int)+1)) >>= _) _ _ s;refine wpAny_bind (wpAny_setField ho hd (by simp) ?_);have hit':(s.heap.update it (Obj.mapFields (·.setIfInBounds 1 (rawInt ((i:Int)+1))))).IsKeyIter it d (i+1) es.size ep :=
  ⟨_,Heap.get?_update_self _ ho (Obj.isFreed_of_fields (Obj.data_mapFields hd _)),(Obj.cls_mapFields ..).trans hc,by rw[Obj.data_mapFields hd]; simp[rawInt]⟩
 refine wpAny_bind (wpAny_holding (wpAny_bind (wpAny_isOneOf_keyiter (s:={ s with heap:=s.heap.update it (Obj.mapFields (·.setIfInBounds 1 (rawInt ((i:Int)+1)))) }) hit'.typeIs ?_)));show wpAny _ _ (pure es[i].key) _ _ _;rw[he];exact wpAny_pure (wpAny_pure ⟨_,rfl,wpAny_pure (hQ _ hit' (Heap.SameBut.update ..))⟩)
theorem Jgr {Q:Option Value→Shared→Prop}(hh:A.handled=none)(hit:s.heap.IsKeyIter it d i es.size ep)(hm:Jfx s.heap d es ep)(hx:es.size≤i)
  (hQ:∀ h',Heap.ExtBut it s.heap h'→Q none { s with heap:=h' }):wpAny (model prog w) A (pyNext (.ref it)) Q E s:=by
 obtain⟨o,ho,hc,hd⟩:=id hit;obtain⟨od,hod,hcd,hdd⟩:=id hm;unfold pyNext;refine wpAny_bind (wpAny_attempt (wpAny_callSpecial?_slot (name:=Str.ofString "__next__") hit.typeIs F.slot_dict_keyiterator_next
  (wpAny_call_entry F.slot_dict_keyiterator_next hit.typeIs F.entry_dict_keyiterator_next ?_ (F.args_dict_keyiterator_next_1 _))))
 refine wpAny_bind (wpAny_pure (wpAny_bind (wpAny_bind ?_)))
 first | refine wpAny_bind (wpAny_typeNameOfWhole_keyiter hit.typeIs (wpAny_pure ?_)) | refine wpAny_bind (wpAny_typeNameOf_keyiter hit.typeIs (wpAny_pure ?_))
 refine wpAny_bind (wpAny_fieldsOf ho hd ?_);show wpAny _ _ (if (Value.ref d==Value.none)=true then _ else _) _ _ s;rw[if_neg (show ¬ ((Value.ref d==Value.none)=true) from Bool.false_ne_true)];refine wpAny_bind (wpAny_pure (wpAny_bind (wpAny_dictEntries hod hdd ?_)));rw[if_neg (by simp)];refine wpAny_bind (wpAny_pure (wpAny_bind (wpAny_dictEpoch hod hdd ?_)));rw[if_neg (by simp)];refine wpAny_pure ?_;have hm:(if (i:Int)<0 then none else es[(i:Int).toNat]?)=none:=by rw[if_neg (by omega),Int.toNat_natCast]; exact Array.getElem?_eq_none hx
 dsimp only;rw[hm];refine wpAny_bind ?_
 first | refine wpAny_bind (wpAny_typeNameOfWhole_keyiter hit.typeIs (wpAny_pure ?_)) | refine wpAny_bind (wpAny_typeNameOf_keyiter hit.typeIs (wpAny_pure ?_))
 show wpAny _ _ (setField (.ref it) 0 .none >>= _) _ _ s;refine wpAny_bind (wpAny_setField ho hd (by simp) ?_);show wpAny _ _ (newExc (.type "StopIteration") [] >>= _) _ _ _;refine wpAny_bind ?_;unfold newExc newTuple;refine wpAny_bind (wpAny_newObj_type ?_ (by size_fits));refine wpAny_bind (m:=firstArgMember _ _) (wpAny_of_eq (a:=Value.none) (by first | rfl | (simp only[firstArgMember]; rfl)) ?_);refine wpAny_newObj_type ?_ (by size_fits);unfold raiseNew;refine wpAny_bind (wpAny_handled ?_);rw[show A.in1.handled=none from hh];refine wpAny_bind (wpAny_pure (wpAny_throw ?_));refine wpAny_bind (wpAny_isInstance (T:="StopIteration") (b:=true) ⟨_,Heap.get?_push_size _ rfl,rfl⟩ isSubtype_stop ?_);exact wpAny_pure (hQ _ (((Heap.SameBut.update ..).extBut.push _).push _))
end
structure Pm where
 al:Nat→Bool
 ao:Nat→Bool
 m:Nat
 cd:Bool
def Jow (p:Pm):IE→Bool
 | .lit _=>true
 | .var t _=>p.al t
 | .op _ a b=>Jh (Jow p a) (Jow p b)
def Jpt (p:Pm):SE→Bool
 | .lit _=>true
 | .var _=>false
 | .cat a b=>Jh (Jpt p a) (Jpt p b)
 | .ofInt e=>Jow p e
def JdH (p:Pm):D→Bool
 | .none=>true
 | .bool _=>true
 | .int e=>Jow p e
 | .str s=>Jpt p s
 | .tup l=>go p l
 | .obj i=>Nat.blt i p.m
 | .tab _ _=>false
 | .opq t=>p.ao t
where go (p:Pm):List D→Bool
 | []=>true
 | d::l=>Jh (JdH p d) (go p l)
def Je5 (p:Pm)(kv:D×D):Bool:=Jh (JdH p kv.1) (JdH p kv.2)
def Jtr (p:Pm)(t:Nat):Bool:=match Nat.beq t 0 with | true=>true | false=>p.al t
def Jmh (p:Pm):Jo→Bool
 | .inst _ d=>Nat.blt d p.m
 | .ns _ l=>Jw (fun x=>JdH p x.2) l
 | .list t l=>Jh (Jtr p t) (JdH.go p l)
 | .dict _ l=>Jw (Je5 p) l
 | .sdict l=>Jw (Je5 p) l
 | .idict l=>Jh (Jh (p.al 1) (p.al 4)) (Jw (Je5 p) l)
 | .cdict l=>Jh p.cd (Jw (fun x=>Jh (Nat.ble 10 x.1) (Je5 p x.2)) l)
structure JaM (p:Pm)(ν ν':Vl):Prop where
 iv:∀ t,p.al t=true→ν.iv t=ν'.iv t
 pre:∀ t,p.al t=true→ν.pre t=ν'.pre t
 ov:∀ t,p.ao t=true→ν.ov t=ν'.ov t
 cd:p.cd=true→ν.fz=ν'.fz∧∀ j,10≤j→ν.dg j=ν'.dg j
section
variable {p:Pm}{ν ν':Vl}{ad:List Addr}{h:Heap}
theorem Jc1 (G:JaM p ν ν'):∀ {e:IE},Jow p e=true→e.val ν=e.val ν'
 | .lit _,_=>rfl
 | .var t o,z=>congrArg (·+o) (G.iv t z)
 | .op k a b,z=>by
  obtain⟨z1,z2⟩:=Ja.mp z;unfold IE.val;rw[Jc1 G z1,Jc1 G z2]
theorem Jfm (G:JaM p ν ν'):∀ {e:SE},Jpt p e=true→e.val ν=e.val ν'
 | .lit _,_=>rfl
 | .var _,z=>by cases z
 | .cat a b,z=>by
  obtain⟨z1,z2⟩:=Ja.mp z;show a.val ν++b.val ν=a.val ν'++b.val ν';rw[Jfm G z1,Jfm G z2]
 | .ofInt e,z=>congrArg (fun i:Int=>Str.ofString (toString i)) (Jc1 G z)
theorem Jei {i m:Nat}{a:Addr}(e:ad[i]?=some a)(h:i<m):(ad.take m)[i]?=some a:=by
 rw[List.getElem?_take,if_pos h]; exact e
mutual
theorem Je.swap (G:JaM p ν ν'):∀ {d:D}{v:Value},JdH p d=true→Je ν ad h d v→Je ν' (ad.take p.m) h d v
 | .none,_,_,x=>x
 | .bool _,_,_,x=>x
 | .int e,_,z,⟨t,x⟩=>⟨t,by rw[← Jc1 G z]; exact x⟩
 | .str e,_,z,⟨⟨t,x⟩,y⟩=>by
  have q:=Jfm G (e:=e) z;exact⟨⟨t,by rw[← q]; exact x⟩,by rw[← q]; exact y⟩
 | .tup l,_,z,⟨a,items,e,t,r⟩=>⟨a,items,e,t,Je.swapL (l:=l) G z r⟩
 | .obj i,_,z,⟨a,e,q⟩=>⟨a,Jei e (Nat.blt_eq.mp z),q⟩
 | .tab _ _,_,z,_=>by cases z
 | .opq t,v,z,x=>by
  have x:v=ν.ov t:=x;show v=ν'.ov t;rw[x,G.ov t z]
theorem Je.swapL (G:JaM p ν ν'):∀ {l:List D}{vs:List Value},JdH.go p l=true→Je.goL ν ad h l vs→Je.goL ν' (ad.take p.m) h l vs
 | [],_,_,x=>x
 | d::l,_,z,⟨v,r,e,x,y⟩=>⟨v,r,e,Je.swap G (Ja.mp z).1 x,Je.swapL G (Ja.mp z).2 y⟩
end
mutual
theorem Jdd (G:JaM p ν ν'):∀ {d:D},JdH p d=true→IT.of ν d=IT.of ν' d
 | .int e,z=>congrArg (fun i=>some (IT.int i)) (Jc1 G (e:=e) z)
 | .tup l,z=>congrArg (fun r:Option (List IT)=>match r with | some l=>some (IT.tup l) | none=>none) (JfJ G (l:=l) z)
 | .none,_=>rfl
 | .bool _,_=>rfl
 | .str _,_=>rfl
 | .obj _,_=>rfl
 | .tab _ _,_=>rfl
 | .opq _,_=>rfl
theorem JfJ (G:JaM p ν ν'):∀ {l:List D},JdH.go p l=true→IT.of.go ν l=IT.of.go ν' l
 | [],_=>rfl
 | d::l,z=>by
  show (match IT.of ν d,IT.of.go ν l with | some x,some r=>some (x::r) | _,_=>none)=(match IT.of ν' d,IT.of.go ν' l with | some x,some r=>some (x::r) | _,_=>none);rw[Jdd G (Ja.mp z).1,JfJ G (Ja.mp z).2]
end
theorem JaU.swap (G:JaM p ν ν'):∀ {l:Loc}{es:List DictEntry},Jw (fun x=>JdH p x.2) l=true→JaU ν ad h l es→JaU ν' (ad.take p.m) h l es
 | [],_,_,x=>x
 | (_,_)::_,_,z,⟨e,es',nm,t,a,b,c,d,f⟩=>by
  obtain⟨z1,z2⟩:=Jad z;exact⟨e,es',nm,t,a,b,c,d.swap G z1,JaU.swap G z2 f⟩
theorem JaW.swap (G:JaM p ν ν'):∀ {l:List (D×D)}{kvs:List (Int×Value)},Jw (Je5 p) l=true→JaW ν ad h l kvs→JaW ν' (ad.take p.m) h l kvs
 | [],_,_,x=>x
 | (_,_)::_,_,z,⟨e,v,r,a,b,c,d⟩=>by
  obtain⟨z1,z2⟩:=Jad z;obtain⟨z3,z4⟩:=Ja.mp z1;subst a;exact⟨e,v,r,rfl,by rw[← Jc1 G (e:=e) z3]; exact b,c.swap G z4,JaW.swap G z2 d⟩
theorem JbX.swap (G:JaM p ν ν'):∀ {l:List (D×D)}{kvs:List (Str×Value)},Jw (Je5 p) l=true→JbX ν ad h l kvs→JbX ν' (ad.take p.m) h l kvs
 | [],_,_,x=>x
 | (_,_)::_,_,z,⟨e,v,r,a,b,c,d⟩=>by
  obtain⟨z1,z2⟩:=Jad z;obtain⟨z3,z4⟩:=Ja.mp z1;subst a;exact⟨e,v,r,rfl,by rw[← Jfm G (e:=e) z3]; exact b,c.swap G z4,JbX.swap G z2 d⟩
theorem Jaa.swap (G:JaM p ν ν'):∀ {l:List (D×D)}{xs:List (IT×Addr×Value)},Jw (Je5 p) l=true→Jaa ν ad h l xs→Jaa ν' (ad.take p.m) h l xs
 | [],_,_,x=>x
 | (_,_)::_,_,z,⟨x,a,v,r,e,b,c,d⟩=>by
  obtain⟨z1,z2⟩:=Jad z;obtain⟨z3,z4⟩:=Ja.mp z1;exact⟨x,a,v,r,by rw[← Jdd G z3]; exact e,b,c.swap G z4,Jaa.swap G z2 d⟩
theorem J9.swap (G:JaM p ν ν')(hc:p.cd=true):∀ {l:List (Nat×D×D)}{xs:List (IT×Addr×Value)},Jw (fun x=>Jh (Nat.ble 10 x.1) (Je5 p x.2)) l=true→J9 ν ad h l xs→J9 ν' (ad.take p.m) h l xs
 | [],_,_,x=>x
 | (j,_,_)::_,_,z,x=>by
  refine Jf fun n1G=>?_;obtain⟨z1,z2⟩:=Jad z;obtain⟨z0,z1⟩:=Ja.mp z1;obtain⟨z3,z4⟩:=Ja.mp z1;have dj:=(G.cd hc).2 j (Nat.ble_eq.mp z0);rcases x with ⟨q,x,a,v,r,e,b,c,d⟩ | ⟨q,d⟩
  · refine n1G ?_;clear n1G;exact .inl ⟨by rw[← dj]; exact q,x,a,v,r,by rw[← Jdd G z3]; exact e,b,c.swap G z4,J9.swap G hc z2 d⟩
  · refine n1G ?_;clear n1G;exact .inr ⟨by rw[← dj]; exact q,J9.swap G hc z2 d⟩
theorem Jac.swap (G:JaM p ν ν'){t:Nat}(z:Jtr p t=true){vs:List Value}(x:Jac ν h t vs):Jac ν' h t vs:=by
 unfold Jac at x ⊢;unfold Jtr at z;by_cases e:t=0
 · rw[if_pos e] at x ⊢; exact x
 · rw[Jaw,decide_eq_false e] at z;rw[if_neg e] at x ⊢;rw[← G.iv t z,← G.pre t z];exact x
theorem JL.swap {prog:Program}{w:World}{cA:List Addr}(G:JaM p ν ν'){a:Addr}{o:Jo}(z:Jmh p o=true)(x:JL prog w ν cA ad h a o):JL prog w ν' cA (ad.take p.m) h a o:=by
 cases o with
 | inst c d =>
  obtain⟨K,dx,a1,a2,a3⟩:=x;exact⟨K,dx,a1,Jei a2 (Nat.blt_eq.mp z),a3⟩
 | ns c l =>
  obtain⟨o,es,ep,a1,a2,a3,a4⟩:=x;exact⟨o,es,ep,a1,a2,a3.swap G z,a4⟩
 | list t l =>
  obtain⟨z1,z2⟩:=Ja.mp z;obtain⟨items,v1,v2,a1,a2,a3,a4⟩:=x;exact⟨items,v1,v2,a1,a2,a3.swap G z1,Je.swapL G z2 a4⟩
 | dict kd l =>
  match kd with
  | 0=>obtain⟨kvs,a1,a2⟩:=x; exact⟨kvs,a1,a2.swap G z⟩
  | 1=>obtain⟨kvs,a1,a2⟩:=x; exact⟨kvs,a1,a2.swap G z⟩
  | 2=>obtain⟨kvs,a1,a2⟩:=x; exact⟨kvs,a1,a2.swap G z⟩
  | _+3=>exact x
 | sdict l=>obtain⟨q,kvs,a1,a2⟩:=x; exact⟨q,kvs,a1,a2.swap G z⟩
 | idict l =>
  obtain⟨z1,z2⟩:=Ja.mp z;obtain⟨k0,kvs,a1,a2,a3,a4⟩:=x;obtain⟨z1,z4⟩:=Ja.mp z1;exact⟨k0,kvs,a1,by rw[← G.iv 1 z1,← G.iv 4 z4]; exact a2,a3.swap G z2,a4⟩
 | cdict l =>
  obtain⟨z1,z2⟩:=Ja.mp z;obtain⟨⟨ks,n1,n2⟩,fr,xs,a1,a2⟩:=x;refine⟨⟨ks,?_,n2⟩,by rw[← (G.cd z1).1]; exact fr,xs,a1,a2.swap G z1 z2⟩;rw[← n1];clear n1 a2
  induction l with
  | nil=>rfl
  | cons y r ih =>
   obtain⟨w1,w2⟩:=Jad z2;obtain⟨_,w1⟩:=Ja.mp w1;rw[List.map_cons,List.map_cons,ih (Ja.mpr ⟨z1,w2⟩) w2,Jdd G (Ja.mp w1).1]
theorem Ja6.swap (G:JaM p ν ν'){f:JH}{l:Loc}(z:Jw (fun x=>JdH p x.2) l=true)(x:Ja6 ν ad h f l):Ja6 ν' (ad.take p.m) h f l:=by
 refine Jf fun n1G=>?_;obtain⟨m,a,b⟩:=x;refine n1G ?_;clear n1G;refine⟨m,a,fun x nm d q1 q2=>?_⟩;have zd:JdH p d=true:=Jn z _ (JaD q2);refine⟨fun q=>?_,fun q=>?_⟩
 · refine Jf fun n2G=>?_;obtain⟨v,z1,z2⟩:=(b x nm d q1 q2).1 q;exact n2G ⟨v,z1,z2.swap G zd⟩
 · refine Jf fun n3G=>?_;obtain⟨c,v,z1,z2,z3⟩:=(b x nm d q1 q2).2 q;exact n3G ⟨c,v,z1,z2,z3.swap G zd⟩
theorem Ja6.less {f:JH}{l l':Loc}(x:Ja6 ν ad h f l)(sub:∀ i d,lkp l' i=some d→lkp l i=some d):Ja6 ν ad h f l':=by
 obtain⟨m,a,b⟩:=x;exact⟨m,a,fun x nm d q1 q2=>b x nm d q1 (sub _ _ q2)⟩
end
structure JE (c c':Jx):Prop where
 prog:c'.prog=c.prog
 w:c'.w=c.w
 clsA:c'.clsA=c.clsA
 h₀:c'.h₀=c.h₀
 ad₀:c'.ad₀=c.ad₀
theorem Jk.swap {c c':Jx}(S:JE c c'){p:Pm}(G:JaM p c.ν c'.ν){ad:List Addr}{fs:List JH}{st st':St}{h:Heap}(R:Jk c ad fs st h)(hd:JD st'.objs st'.n)(hm:st'.n=p.m)(hn:p.m≤st.n)(h0:c.ad₀.length≤p.m)
  (ho:∀ i o',st'.objs.get i=some o'→(st.objs.get i=some o'∧Jmh p o'=true)∨∀ a,ad[i]?=some a→(∃ o,st.objs.get i=some o∧JdM o=false)∧JL c'.prog c'.w c'.ν c'.clsA (ad.take p.m) h a o')
  (hl:∀ i k d,st'.objs.get i=some (.inst k d)→∃ l,st'.objs.get d=some (.ns k l)) (hf:Jau c'.ν (ad.take p.m) h fs (st'.loc::st'.rest)) (hdm:∀ j l,Js st'.dom j=some l→c'.ν.dg j∈l):Jk c' (ad.take p.m) fs st' h:=by
 have lt:∀ {i o},st'.objs.get i=some o→i<p.m:=fun {i o} e=>by
  have:=(hd.some_iff i).mp (by rw[e]; rfl); omega
 refine⟨hd,by rw[List.length_take,R.len,hm]; omega,fun i o' e=>?_,hl,?_,hf,fun f hf=>by rw[S.h₀]; exact R.low f hf,fun b o e=>R.base b o (by rw[← S.h₀]; exact e),hdm,fun i a e=>?_⟩
 · refine Jf fun n1G=>?_;rcases ho i o' e with ⟨e1,e2⟩ | q
   · obtain⟨a,h1,h2,h3⟩:=R.objs i o' e1;refine n1G ?_;clear n1G;refine⟨a,Jei h1 (lt e),?_,h3.imp id fun q=>by rw[S.h₀]; exact q⟩;rw[S.prog,S.w,S.clsA];exact h2.swap G e2
   · have hi:i<ad.length:=by rw[R.len]; have:=lt e; omega
     obtain⟨⟨o,q1,q2⟩,q3⟩:=q _ (List.getElem?_eq_getElem hi);obtain⟨a,h1,h2,h3⟩:=R.objs i o q1;rw[List.getElem?_eq_getElem hi] at h1;obtain rfl:=Jp h1;refine n1G ?_;clear n1G;refine⟨_,Jei (List.getElem?_eq_getElem hi) (lt e),q3,.inr ?_⟩;rw[S.h₀];exact h3.elim (fun q=>by rw[q2] at q; cases q) id
 · have n:=R.nodup;exact n.sublist ((List.take_sublist _ _).append_right _)
 · rw[S.ad₀] at e;exact Jei (R.root i a e) (Nat.lt_of_lt_of_le (List.getElem?_eq_some_iff.mp e).1 h0)
noncomputable def kN (P:St→Prop):Fl→St→Bool:=fun fl st=>@decide (fl=.next∧P st) (Classical.propDecidable _)
theorem Jb4 {P:St→Prop}{fl:Fl}{st:St}:kN P fl st=true↔fl=.next∧P st:=by
 unfold kN; exact @decide_eq_true_iff _ (Classical.propDecidable _)
noncomputable def kD (P:D→St→Prop):D→St→Bool:=fun d st=>@decide (P d st) (Classical.propDecidable _)
theorem Ja1 {P:D→St→Prop}{d:D}{st:St}:kD P d st=true↔P d st:=by
 unfold kD; exact @decide_eq_true_iff _ (Classical.propDecidable _)
theorem JE.refl (c:Jx):JE c c:=⟨rfl,rfl,rfl,rfl,rfl⟩
theorem JE.trans {a b c:Jx}(x:JE a b)(y:JE b c):JE a c:=⟨y.prog.trans x.prog,y.w.trans x.w,y.clsA.trans x.clsA,y.h₀.trans x.h₀,y.ad₀.trans x.ad₀⟩
theorem JN.back {ad ad':List Addr}{fs:List JH}{s s':Shared}(x:JN ad fs s ad' s'):JN ad fs s ad s':=⟨fun _ _ e=>e,fun _ e=>.inl e,x.keep,x.kept,x.gens,x.drawn,x.os⟩
theorem Jh6 {M:Model}{A:Around}{E:Value→Shared→Prop}{s:Shared}{t:Expr}{it d:Addr}{v:Value}{i n ep:Nat}{Q:Unit→Shared→Prop}(hit:s.heap.IsKeyIter it d i n ep)(q:Q () s):wpAny M A (letOwnedTupleGo t (.ref it) v) Q E s:=by
 refine Jf fun n1G=>?_;obtain⟨o,ho,hc,hd⟩:=hit;refine n1G ?_;clear n1G;unfold letOwnedTupleGo
 cases t <;> first
  | exact wpAny_pure q
  | (cases v <;> first
    | exact wpAny_pure q
    | (refine wpAny_bind (wpAny_load ho ?_)
       rw[hc,hd];exact wpAny_pure q))
theorem JjD {c:Jx}{A:Around}{R:Result→Shared→Prop}{t:Expr}{it:Addr}{body:List Stmt}{env:Env}(I:Nat→Shared→Prop)
  (turn:∀ m s,I m s→wpAny (model c.prog c.w) A (pyNext (.ref it)) (fun r s₁=>match r with
   | none=>R (.ok .next) s₁
   | some v=>(∃ d i n ep,s₁.heap.IsKeyIter it d i n ep)∧wpAny (model c.prog c.w) A (assign t env v) (fun _ s₂=>wpAny (model c.prog c.w) A (execs body env) (fun f s₃=>match f with
     | .next=>∃ m',m'<m∧I m' s₃
     | .ret v=>R (.ok (.ret v)) s₃
     | _=>False) (fun _ _=>False) s₂) (fun _ _=>False) s₁) (fun _ _=>False) s)
  (m:Nat) {s:Shared} (h:I m s):codeAny (model c.prog c.w) A (.forLoop t (.ref it) body [] env) R s:=by
 refine codeAny_loop' rfl I (fun m s hI=>?_) m h;show wpAny _ _ ((forTurn t (.ref it) body [] env).onRaise (fun x=>do noteFrame x env; theTreesLotGoes x)) _ _ s
 refine wpAny_noted ?_;simp only[forTurn];refine wpAny_bind (wpAny_standAt (wpAny_bind (wpAny_onRaise (wpAny_mono (turn m s hI) (fun r s₁ h₁=>?_) fun _ _ h'=>h'.elim))));refine Jf fun n1G=>?_
 cases r with
 | none =>
  exact n1G (wpAny_pure (.inr ⟨rfl,codeAny_block (wpAny_execs_nil h₁)⟩))
 | some v =>
  obtain⟨⟨d,i,n,ep,hq⟩,h₁⟩:=h₁;refine n1G ?_;clear n1G;refine wpAny_bind (Jh6 hq ?_);refine wpAny_bind (wpAny_mono h₁ (fun _ s₂ h₂=>wpAny_bind (wpAny_mono h₂ (fun f s₃ h₃=>?_) fun _ _ h'=>h'.elim)) fun _ _ h'=>h'.elim);refine Jf fun n2G=>?_
  cases f with
  | next =>
   exact n2G (wpAny_pure (.inl ⟨rfl,h₃⟩))
  | cont =>
   exact n2G (h₃.elim)
  | brk =>
   exact n2G (h₃.elim)
  | ret v =>
   exact n2G (wpAny_pure h₃)
def Jk1 (c:Jx)(F:FT')(n:Nat)(q:QT)(qs:List QS)(f:JH)(fs:List JH)(ad:List Addr)(INV:Nat→Jx→St→Prop)(VAL:Nat→Value→Prop)(j:Nat):Prop :=
 ∀ c1 st1 (h1:Heap),JE c c1→Jk c1 ad (f::fs) st1 h1→INV j c1 st1→∀ v,VAL j v→∃ c2 st2 d GOOD,JE c c2∧Jk c2 ad (f::fs) st2 h1∧Je c2.ν ad h1 d v ∧
  (ev F C n).assign q d st2 (fun st=>(ev F C n).Ss qs st (kN GOOD))=true ∧
  ∀ ad3 st3 h3,Jk c2 ad3 (f::fs) st3 h3→Pre ad ad3→GOOD st3→∃ c3 st4,JE c c3∧Jk c3 ad (f::fs) st4 h3∧INV (j+1) c3 st4
section
variable {c:Jx}{F:FT'}{n:Nat}{sc:Scope}{q:QT}{t:Expr}{qs:List QS}{ss:List Stmt}{f:JH}{fs:List JH}{ad:List Addr}{INV:Nat→Jx→St→Prop}{VAL:Nat→Value→Prop}
def Jfg (c:Jx)(f:JH)(fs:List JH)(ad:List Addr)(INV:Nat→Jx→St→Prop)(s0:Shared)(j:Nat)(s:Shared):Prop :=
 (∃ c1 st1,JE c c1∧Jk c1 ad (f::fs) st1 s.heap∧INV j c1 st1)∧JN ad (f::fs) s0 ad s
theorem JhV (H:∀ c',JE c c'→HA c' F n sc q t∧HSs c' F n sc qs ss){env:Env}{A:Around}(hE:JY env f)(hs:f.sc=sc)(hA:Jz A n){j:Nat}(T:Jk1 c F n q qs f fs ad INV VAL j){s0 s1:Shared}(hH:Jfg c f fs ad INV s0 j s1){v:Value}(hv:VAL j v)
  {Q:Flow→Shared→Prop} (k:∀ s3,Jfg c f fs ad INV s0 (j+1) s3→JN ad (f::fs) s1 ad s3→Q .next s3) :
  wpAny (model c.prog c.w) A (assign t env v) (fun _ s2=>wpAny (model c.prog c.w) A (execs ss env) Q (fun _ _=>False) s2) (fun _ _=>False) s1:=by
 refine Jf fun n1G=>?_;obtain⟨⟨c1,st1,S1,R1,I1⟩,X1⟩:=hH;obtain⟨c2,st2,d,GOOD,S2,R2,hd,e,fin⟩:=T c1 st1 s1.heap S1 R1 I1 v hv;obtain⟨HA2,HS2⟩:=H c2 S2;refine n1G ?_;clear n1G;rw[← S2.prog,← S2.w];refine HA2 hE hs hA R2 hd e fun ad3 st3 s3 R3 X3 e3=>?_;refine HS2 hE hs hA R3 e3 fun ad4 st4 s4 fl d4 R4 X4 i4 e4=>?_;refine Jf fun n2G=>?_;obtain⟨e5,e6⟩:=Jb4.mp e4;subst e5;have i4:fl=_:=i4;subst i4;have X24:=X3.trans R3 X4;obtain⟨c3,st5,S3,R5,I3⟩:=fin ad4 st4 s4.heap R4 X24.pre e6;exact n2G (k s4 ⟨⟨c3,st5,S3,R5,I3⟩,(X1.trans R2 X24).back⟩ X24.back)
theorem Jfg.side' {s0 s:Shared}{j:Nat}(x:Jfg c f fs ad INV s0 j s){a:Addr}(ha:s0.heap.get? a=none)(hn:a ∉ ad)(hf:a ∉ (f::fs).map (·.L))(h0:c.h₀.get? a=none){s':Shared}(sb:Heap.ExtBut a s.heap s'.heap)(k:JaB s.heap s'.heap)
  (hg:s'.gens=s.gens) (hd:s'.drawn=s.drawn) (ho:s'.os=s.os):Jfg c f fs ad INV s0 j s':=by
 refine Jf fun n1G=>?_;obtain⟨⟨c1,st1,S1,R1,I1⟩,X1⟩:=x;exact n1G ⟨⟨c1,st1,S1,R1.side' hn hf (by rw[S1.h₀]; exact h0) sb k,I1⟩,X1.side' ha sb k hg hd ho⟩
theorem Jcp {c:Jx}{ad ad1:List Addr}{fs:List JH}{st:St}{h h1:Heap}(R:Jk c ad fs st h)(R1:Jk c ad1 fs st h1)(x:Pre ad ad1):ad1=ad:=by
 have len:ad1.length=ad.length:=by rw[R1.len,R.len]
 refine List.ext_getElem? fun i=>?_;by_cases q:i<ad.length
 · rw[x i _ (List.getElem?_eq_getElem q),List.getElem?_eq_getElem q]
 · rw[List.getElem?_eq_none (by omega),List.getElem?_eq_none (by omega)]
theorem JmA {K:Frag}{JB:List Addr}{mg mb:Str→Option Value}{pos:Pos}{qe:QE}{ee:Expr}(Gl:JcH c K JB mg mb){x:Str}{p0 p1:Pos}(hx:sc.names.lookup x=some .globalImplicit)(hd:(x==("__debug__":Str))=false)(hg:JO G x=some (.bi 4)){n':Nat}(he:HE c F n' sc qe ee)(hst:JA ee=true)
  (H:∀ c',JE c c'→HA c' F n sc q t∧HSs c' F n sc qs ss) {env:Env}{A:Around}{st:St}{s:Shared} (hE:JY env f) (hs:f.sc=sc) (hA:Jz A n) (hA':Jz A n') (R:Jk c ad (f::fs) st s.heap) {N:Nat}{el:IE} (hlen:(ev F C n').E qe st (kD fun d st'=>d=.int el∧st'=st)=true) (hN:el.val c.ν=(N:Int)) (lt:N<1073741824)
  (start:INV 0 c st) (T:∀ j,j<N→Jk1 c F n q qs f fs ad INV (fun j v=>∃ t,v=.int j t) j) {Q:Flow→Shared→Prop} (k:∀ s',Jfg c f fs ad INV s N s'→Q .next s') :
  wpAny (model c.prog c.w) A (exec (.For t (.Call (.Name x p0) [ee] [] p1) ss [] pos) env) Q (fun _ _=>False) s:=by
 have hx':f.sc.names.lookup x=some .globalImplicit:=hs ▸ hx;have main:wpAny (model c.prog c.w) A (eval (.Call (.Name x p0) [ee] [] p1) env) (fun xv s₁=>wpAny (model c.prog c.w) A (pyIter xv) (fun it s2=>codeAny (model c.prog c.w) A (.forLoop t it ss [] env) (fun r s'=>match r with | .ok f=>Q f s' | .error _=>False) s2) (fun _ _=>False) s₁) (fun _ _=>False) s:=by
  refine wpAny_Call_NameR (Jca Gl hE hx' hd (.inr (Gl.bi x 4 hg)) R ?_);refine callWith_of (P:=fun _=>True) (by rw[JX (es:=[ee]) fun y hy=>by cases List.mem_singleton.mp hy; exact hst]; rfl) (fun h _=>JeH 4 h) (Jbk (es:=[ee]) (fun y hy=>by cases List.mem_singleton.mp hy; exact hst) ?_);refine wpAny_items_cons (he hE hs hA' R hlen fun ad1 st1 s1 v1 d1 R1 x1 i1 e1=>?_) (JaO hst [] env);refine wpAny_items_nil ⟨trivial,?_⟩;obtain⟨rfl,rfl⟩:=Ja1.mp e1;obtain⟨tk,rfl⟩:=i1;rw[hN];have ea:ad1=ad:=Jcp R R1 x1.pre;subst ea;refine call_range_1 (wpAny_pyIter_range (IsRange.new ..) (small_one (by decide) (by decide) (by omega) (by omega)) ?_);have hsz:Builtin.Range.rangeSize 0 (N:Int) 1=(N:Int):=by rw[rangeSize_one]; split <;> omega
  rw[hsz];generalize hH:(s1.heap.push { cls:=.type "range",data:=.fields #[.int 0 s1.toks,.int (N:Int) tk,.int 1 (s1.toks+1)] })=H1;have k0:∀ b o,s1.heap.get? b=some o→H1.get? b=some o:=fun b o e=>by rw[← hH]; exact Heap.get?_push_of_some _ e
  have fr:s1.heap.get? H1.objs.size=none:=by
   cases q:s1.heap.get? H1.objs.size with
   | none=>rfl
   | some o=>have:=k0 _ _ q; rw[Jl] at this; cases this
  obtain⟨F1,F2,F3⟩:=R1.fresh fr;have k1:∀ b o,s1.heap.get? b=some o→(H1.push { cls:=.type "range_iterator",data:=.fields #[rawInt 0,rawInt (N:Int),rawInt 1] }).get? b=some o:=fun b o e=>Heap.get?_push_of_some _ (k0 b o e);have Ra:=R1.grow k1;have Xa:JN ad1 (f::fs) s1 ad1 { s1 with heap:=H1.push { cls:=.type "range_iterator",data:=.fields #[rawInt 0,rawInt (N:Int),rawInt 1] },toks:=s1.toks+1+1 }:=.grow k1 rfl rfl rfl;have fr0:s.heap.get? H1.objs.size=none:=by
   cases q:s.heap.get? H1.objs.size with
   | none=>rfl
   | some o=>have:=x1.keep _ _ q F1 F2; rw[fr] at this; cases this
  refine JbE (I:=fun m s'=>∃ j,Jfg c f fs ad1 INV s j s'∧IsRangeIter s'.heap H1.objs.size ((j:Nat):Int) ((N:Int) - ((j:Nat):Int)) 1∧j≤N∧m=N - j) ?_ N
   ⟨0,⟨⟨c,st1,.refl c,Ra,start⟩,x1.trans R1 Xa⟩,?_,Nat.zero_le _,rfl⟩
  · rintro m s' ⟨j,hL,hit,hj,rfl⟩;have hq:JaC { cls:=.type "range_iterator",dict:=none,data:=.fields #[rawInt ((j:Nat):Int),rawInt ((N:Int) - ((j:Nat):Int)),rawInt 1],slots:=#[] }:=.inr (.inr rfl);by_cases hjN:j<N
    · refine wpAny_pyNext_range_item hit (by omega) fun h' hi' sb=>?_;have kp:=J4 hit hq rfl sb.extBut;refine⟨⟨_,hi',.inr (.inr rfl)⟩,?_⟩;refine JhV H hE hs hA (T j hjN) (hL.side' (s':={ s' with heap:=h',toks:=s'.toks+1 }) fr0 F1 F2 F3 sb.extBut kp rfl rfl rfl) ⟨s'.toks,rfl⟩ fun s3 hH3 X3=>?_;have y2:=X3.keep _ _ hi' F1 F2;refine⟨N - (j+1),by omega,j+1,hH3,?_,hjN,rfl⟩;have z1:(((j+1:Nat):Nat):Int)=((j:Nat):Int)+1:=by omega
      have z2:(N:Int) - (((j+1:Nat):Nat):Int)=(N:Int) - ((j:Nat):Int) - 1:=by omega
      show IsRangeIter s3.heap H1.objs.size _ _ 1;rw[z2,z1];exact y2
    · have:j=N:=by omega
      subst this;refine wpAny_pyNext_range_end hA.1 hit (by omega) fun h' sb=>?_;have kp:=J4 hit hq rfl sb;exact k _ (hL.side' (s':={ s' with heap:=h' }) fr0 F1 F2 F3 sb kp rfl rfl rfl)
  · show IsRangeIter _ H1.objs.size _ _ 1;simp only[Int.natCast_zero,Int.sub_zero];exact Heap.get?_push_size _ rfl
 exact wpAny_For (wpAny_mono main (fun x s₁ h₁=>wpAny_mono h₁ (fun it s₂ h₂=>codeAny_mono h₂ fun r s' h=>by cases r <;> first | exact h | exact h.elim) fun _ _ q=>q) fun _ _ q=>q) (fun x=>rfl)
theorem Jn7 {pos:Pos}{qe:QE}{ee:Expr}{n':Nat}(he:HE c F n' sc qe ee)(hset:JcD ee=true)
  (H:∀ c',JE c c'→HA c' F n sc q t∧HSs c' F n sc qs ss) {env:Env}{A:Around}{st:St}{s:Shared} (hE:JY env f) (hs:f.sc=sc) (hA:Jz A n) (hA':Jz A n') (R:Jk c ad (f::fs) st s.heap) {i:Nat}{D:Addr}{es:Array DictEntry}{ep:Nat} (hev:(ev F C n').E qe st (kD fun d st'=>d=.obj i∧st'=st)=true)
  (hi:ad[i]?=some D) (hsys:D≠sysModules) (raw:∀ j c1 st1 h1,JE c c1→Jk c1 ad (f::fs) st1 h1→INV j c1 st1→Jfx h1 D es ep)
  (start:INV 0 c st) (T:∀ j,j<es.size→Jk1 c F n q qs f fs ad INV (fun j v=>∃ e,es[j]?=some e∧v=e.key) j) {Q:Flow→Shared→Prop} (k:∀ s',Jfg c f fs ad INV s es.size s'→Q .next s') :
  wpAny (model c.prog c.w) A (exec (.For t ee ss [] pos) env) Q (fun _ _=>False) s:=by
 refine wpAny_For (wpAny_mono (he hE hs hA' R hev (Q:=fun x s₁=>wpAny (model c.prog c.w) A (pyIter x) (fun it s2=>codeAny (model c.prog c.w) A (.forLoop t it ss [] env) (fun r s'=>match r with | .ok f=>Q f s' | .error _=>False) s2) (fun _ _=>False) s₁) fun ad1 st1 s1 v1 d1 R1 x1 i1 e1=>?_) (fun x s₁ h₁=>wpAny_mono h₁ (fun it s₂ h₂=>codeAny_mono h₂ fun r s' h=>by cases r <;> first | exact h | exact h.elim) fun _ _ q=>q) fun _ _ q=>q) (fun x=>Jcf hset env x)
 refine Jf fun n1G=>?_;obtain⟨rfl,rfl⟩:=Ja1.mp e1;have ea:=Jcp R R1 x1.pre;subst ea;obtain⟨a,ha,rfl⟩:=i1;obtain rfl:=sjt hi ha;refine n1G ?_;clear n1G;refine JkO hsys (raw 0 c st1 s1.heap (.refl c) R1 start) ?_;have k1:∀ b o,s1.heap.get? b=some o→(s1.heap.push { cls:=.type "dict_keyiterator",data:=.fields #[.ref D,.int 0 0,.int es.size 0,.int ep 0] }).get? b=some o:=fun _ _ e=>Heap.get?_push_of_some _ e;obtain⟨F1,F2,F3⟩:=R1.fresh (Jl s1.heap);have Ra:=R1.grow k1;have Xa:JN ad1 (f::fs) s1 ad1 { s1 with heap:=s1.heap.push { cls:=.type "dict_keyiterator",data:=.fields #[.ref D,.int 0 0,.int es.size 0,.int ep 0] } }:=.grow k1 rfl rfl rfl;have fr0:s.heap.get? s1.heap.objs.size=none:=by
  cases q:s.heap.get? s1.heap.objs.size with
  | none=>rfl
  | some o=>have:=x1.keep _ _ q F1 F2; rw[Jl] at this; cases this
 have kpt:∀ {h h':Heap}{it:Addr}{o:Obj}{vs:Array Value},h.get? it=some o→o.data=.fields vs→Heap.ExtBut it h h'→JaB h h':=fun {h h' it o vs} ho hd sb b ob eb hb=>by
  by_cases q:b=it
  · refine Jf fun n2G=>?_;subst q;obtain rfl:=sjt ho eb;rcases hb with ⟨h1,xs,n,h2⟩ | ⟨v,h2⟩
    · rw[hd] at h2; cases h2
    · rw[hd] at h2; cases h2
  · exact sb b ob q eb
 refine JjD (I:=fun m s'=>∃ j,Jfg c f fs ad1 INV s j s'∧s'.heap.IsKeyIter s1.heap.objs.size D j es.size ep∧j≤es.size∧m=es.size - j) ?_ es.size
  ⟨0,⟨⟨c,st1,.refl c,Ra,start⟩,x1.trans R1 Xa⟩,⟨_,Heap.get?_push_size _ rfl,rfl,rfl⟩,Nat.zero_le _,rfl⟩
 rintro m s' ⟨j,hH,hit,hj,rfl⟩;refine Jf fun n3G=>?_;obtain⟨oi,ho,hc,hd⟩:=id hit;obtain⟨⟨c1,st2,S2,R2,I2⟩,X2⟩:=id hH;have hr:=raw j c1 st2 s'.heap S2 R2 I2;by_cases hjN:j<es.size
 · refine n3G ?_;clear n3G;refine Jfk hit hr (Array.getElem?_eq_getElem hjN) fun h' hi' sb=>?_;have kp:=kpt ho hd sb.extBut;obtain⟨o2,ho2,hc2,hd2⟩:=id hi';refine⟨⟨_,_,_,_,hi'⟩,?_⟩;refine JhV H hE hs hA (T j hjN) (hH.side' (s':={ s' with heap:=h' }) fr0 F1 F2 F3 sb.extBut kp rfl rfl rfl) ⟨_,Array.getElem?_eq_getElem hjN,rfl⟩ fun s3 hH3 X3=>?_;have y2:=X3.keep _ _ ho2 F1 F2;exact⟨es.size - (j+1),by omega,j+1,hH3,⟨o2,y2,hc2,hd2⟩,hjN,rfl⟩
 · have:j=es.size:=by omega
   subst this;refine n3G ?_;clear n3G;refine Jgr hA.1 hit hr (Nat.le_refl _) fun h' sb=>?_;have kp:=kpt ho hd sb;exact k _ (hH.side' (s':={ s' with heap:=h' }) fr0 F1 F2 F3 sb kp rfl rfl rfl)
end
noncomputable def obA:List Jo:=[(.ns 2 [(18,.obj 5),(36,.obj 11),(37,.obj 12),(38,.obj 13),(39,.obj 14),(40,.obj 15),(41,I 0)]),(.inst 2 2),(.ns 0 [(3,.obj 6),(4,.obj 7),(5,.obj 8),(6,.obj 9),(7,.obj 10)]),(.inst 0 4),(.list 0 [(.tup [I 1,I 0]),(.tup [I 1,I 1]),(.tup [I 1,I 2]),(.tup [I 1,I 3]),(.tup [I 1,I 4]),(.tup [I 1,I 5]),(.tup [I 1,I 6]),(.tup [I 1,I 7]),(.tup [I 1,I 8]),(.tup [I 1,I 9]),(.tup [I 1,I 10]),(.tup [I 1,I 11]),(.tup [I 1,I 12]),(.tup [I 1,I 13]),(.tup [I 1,I 14]),(.tup [I 1,I 15]),(.tup [I 6,I 0]),(.tup [I 2,I 21,(.tup [I 13])]),(.tup [I 2,I 22,(.tup [])]),(.tup [I 3,I 23,(.tup [])]),(.tup [I 2,I 24,(.tup [])]),(.tup [I 2,I 21,(.tup [I 7])]),(.tup [I 6,I 1]),(.tup [I 6,I 2]),(.tup [I 6,I 3])]),(.dict 2 [((.tup [I 1,I 0]),I 0),((.tup [I 1,I 1]),I 1),((.tup [I 1,I 2]),I 2),((.tup [I 1,I 3]),I 3),((.tup [I 1,I 4]),I 4),((.tup [I 1,I 5]),I 5),((.tup [I 1,I 6]),I 6),((.tup [I 1,I 7]),I 7),((.tup [I 1,I 8]),I 8),((.tup [I 1,I 9]),I 9),((.tup [I 1,I 10]),I 10),((.tup [I 1,I 11]),I 11),((.tup [I 1,I 12]),I 12),((.tup [I 1,I 13]),I 13),((.tup [I 1,I 14]),I 14),((.tup [I 1,I 15]),I 15),((.tup [I 6,I 0]),I 16),((.tup [I 2,I 21,(.tup [I 13])]),I 17),((.tup [I 2,I 22,(.tup [])]),I 18),((.tup [I 3,I 23,(.tup [])]),I 19),((.tup [I 2,I 24,(.tup [])]),I 20),((.tup [I 2,I 21,(.tup [I 7])]),I 21),((.tup [I 6,I 1]),I 22),((.tup [I 6,I 2]),I 23),((.tup [I 6,I 3]),I 24)]),(.list 0 [I 1,I 1,I 1,I 1,I 1,I 1,I 1,I 1,I 1,I 1,I 1,I 1,I 1,I 1,I 1,I 1,I 1,I 2,I 1,I 1,I 1,I 2,I 1,I 1,I 1]),(.list 0 [I 1,I 1,I 1,I 1,I 1,I 1,I 1,I 1,I 1,I 1,I 1,I 1,I 1,I 1,I 1,I 1,I 1,I 2,I 1,I 1,I 1,I 2,I 1,I 1,I 1]),(.list 0 [I 0,I 0,I 0,I 0,I 0,I 0,I 0,I 0,I 0,I 0,I 0,I 0,I 0,I 0,I 0,I 0,I 1,I 0,I 0,I 0,I 0,I 0,I 1,I 1,I 1]),(.list 0 [.none]),(.list 0 [.none]),(.list 0 [.none]),(.dict 3 []),(.list 0 []),(.ns 11 [(18,.obj 5),(121,.obj 27),(122,.obj 19),(123,.obj 26),(124,.obj 21),(70,.obj 22),(52,.obj 28),(53,.obj 29),(125,.obj 25)]),(.inst 11 16),(.dict 3 []),(.dict 3 []),(.dict 3 []),(.dict 3 []),(.dict 3 []),(.dict 3 []),(.dict 3 []),(.dict 3 []),(.dict 0 [((I 21),I 1),((I 22),I 1),((I 23),I 2),((I 24),I 3)]),(.dict 0 [((I 22),I 18),((I 23),I 12),((I 24),I 12)]),(.dict 0 [((I 22),(.tup [I 18])),((I 23),(.tup [I 20])),((I 24),(.tup [I 20]))]),(.dict 0 [((I 24),I 1)]),(.dict 1 [((.str (.lit "store")),.obj 3),((.str (.lit "host")),.obj 17),((.str (.lit "loose")),I 16),((.str (.lit "heir")),I 18),((.str (.lit "box")),I 19),((.str (.lit "face")),I 20),((.str (.lit "firm")),I 22),((.str (.lit "other")),I 23),((.str (.lit "marked")),I 24),((.str (.lit "spots")),(.tup [(.tup [I 18,I 18,I 22,I 7]),(.tup [I 18,I 17,I 21,I 13]),(.tup [I 21,I 21,I 21,I 7]),(.tup [I 19,I 19,I 23,I 7]),(.tup [I 20,I 20,I 24,I 7]),(.tup [I 22,I 17,I 21,I 13]),(.tup [I 23,I 20,I 24,I 7]),(.tup [I 24,I 20,I 24,I 7]),(.tup [I 7,I 7,I 15,I 7]),(.tup [I 13,I 12,I 1,I 7]),(.tup [I 12,I 12,I 1,I 7])])),((.str (.lit "told")),.obj 31),((.str (.lit "goes")),.obj 32)]),(.list 0 []),(.dict 2 [((.tup [I 14,I 13]),I 8),((.tup [I 22,I 18]),I 2),((.tup [I 24,I 20]),I 2)])]
noncomputable def obC:List Jo:=[(.ns 5 [(42,.obj 3),(60,I 0),(61,.obj 35),(62,.obj 36),(63,.obj 37),(64,.obj 39),(65,.obj 41),(66,.obj 42),(67,.obj 43)]),(.inst 5 33),(.list 0 [.none]),(.list 0 [.none]),(.dict 3 []),(.ns 4 [(3,.obj 40)]),(.inst 4 38),(.list 0 []),(.dict 3 []),(.dict 3 []),(.dict 3 []),(.ns 10 [(78,.obj 34),(42,.obj 3),(18,.obj 5),(47,.obj 17),(60,I 0),(79,.obj 46),(80,.obj 47),(81,.obj 48),(64,.obj 39),(82,.obj 49),(83,.obj 50),(36,.obj 51),(84,.obj 52),(3,.obj 53),(85,.obj 54),(86,.none),(30,I 0),(87,I 0),(88,I 0),(89,I 0),(90,I 0),(91,I 0),(92,.obj 55),(93,I 0),(94,.obj 56),(95,.obj 57),(96,.obj 59),(77,.obj 61),(97,.obj 67),(98,.obj 69),(99,I 0),(100,I 0),(57,I 0),(101,.obj 70)]),(.inst 10 44),(.dict 3 []),(.dict 3 []),(.list 0 []),(.dict 3 []),(.dict 3 []),(.dict 3 []),(.list 0 []),(.list 0 []),(.dict 3 []),(.list 0 []),(.dict 3 []),(.list 0 []),(.ns 6 []),(.inst 6 58),(.ns 7 [(68,.obj 62),(69,.obj 63),(70,.obj 64),(71,.obj 65)]),(.inst 7 60),(.dict 3 []),(.dict 3 []),(.dict 3 []),(.dict 3 []),(.ns 8 []),(.inst 8 66),(.ns 9 []),(.inst 9 68),(.dict 3 [])]
def q0:QS:=(.asgc 159 (.bin .Mod (.loc 127) (cI 1658880)) 127 (.slice (.loc 158) (.const .none) (cI 20)) [])
noncomputable def q1:QS:=(.asg (.name 137) (.call 61 []))
def q2:QS:=(.asg (.sub (.loc 137) (cS "told")) (.list []))
def q3:QS:=(.asg (.sub (.loc 137) (cS "goes")) (.dict [(.tup [cI 14,cI 13]),cI 8,(.tup [(.sub (.loc 137) (cS "firm")),(.sub (.loc 137) (cS "heir"))]),cI 2,(.tup [(.sub (.loc 137) (cS "marked")),(.sub (.loc 137) (cS "face"))]),cI 2]))
def q4:QS:=(.asg (.name 160) (.ite (.loc 159) (.sub (.loc 159) (cI 0)) (cI 0)))
def q5:QS:=(.ite (.cmp .Eq (.bin .Mod (.loc 160) (cI 5)) (cI 4)) [(.expr (.meth (.sub (.loc 137) (cS "goes")) 1 [(.tup [(.sub (.loc 137) (cS "firm")),(.sub (.loc 137) (cS "heir"))])]))] [])
def q6:QS:=(.ite (.cmp .Eq (.bin .Mod (.bin .FloorDiv (.loc 160) (cI 5)) (cI 5)) (cI 4)) [(.expr (.meth (.sub (.loc 137) (cS "goes")) 1 [(.tup [(.sub (.loc 137) (cS "marked")),(.sub (.loc 137) (cS "face"))])]))] [])
def q7:QS:=(.ite (.cmp .Eq (.bin .Mod (.bin .FloorDiv (.loc 160) (cI 25)) (cI 5)) (cI 4)) [(.expr (.meth (.sub (.loc 137) (cS "goes")) 1 [(.tup [cI 14,cI 13])]))] [])
def q8:QS:=(.asg (.name 154) (.new 10 [(.new 5 [(.sub (.loc 137) (cS "store")),cI 0]),cI 0,(.sub (.loc 137) (cS "host"))]))
def q9:QS:=(.for_ (.name 161) (.sub (.loc 137) (cS "goes")) [(.asg (.sub (.attr (.attr (.loc 154) 77) 68) (.loc 161)) (.sub (.sub (.loc 137) (cS "goes")) (.loc 161)))])
noncomputable def q10:QS:=(.asg (.name 162) (.list []))
noncomputable def q11:QS:=(.for_ (.name 139) (.const (.tup [(.tup [I 3,I 1,I 2,I 0,I 0,I 0,I 0,I 0,I 3,I 0]),(.tup [I 4,I 0,I 2,I 0,I 0,I 0,I 1,I 0,I 0,I 0]),(.tup [I 5,I 0,I 2,I 0,I 0,I 0,I 1,I 0,I 0,I 0]),(.tup [I 0,I 0,I 2,I 0,I 0,I 0,I 1,I 0,I 0,I 0]),(.tup [I 1,I 1,I 2,I 0,I 0,I 2,I 1,I 0,I 3,I 0]),(.tup [I 2,I 2,I 2,I 0,I 0,I 1,I 1,I 0,I 0,I 0]),(.tup [I 2,I 1,I 0,I 0,I 0,I 2,I 0,I 0,I 0,I 0]),(.tup [I 2,I 1,I 0,I 1,I 1,I 0,I 1,I 0,I 3,I 0]),(.tup [I 2,I 0,I 0,I 1,I 1,I 0,I 3,I 0,I 0,I 0]),(.tup [I 2,I 2,I 0,I 0,I 2,I 0,I 1,I 0,I 0,I 0]),(.tup [I 2,I 1,I 0,I 2,I 0,I 1,I 3,I 0,I 6,I 0]),(.tup [I 2,I 0,I 0,I 3,I 0,I 0,I 6,I 3,I 0,I 0]),(.tup [I 2,I 3,I 0,I 0,I 1,I 0,I 1,I 0,I 0,I 0]),(.tup [I 0,I 0,I 0,I 0,I 1,I 0,I 1,I 0,I 0,I 1]),(.tup [I 0,I 0,I 0,I 3,I 0,I 1,I 5,I 0,I 0,I 1]),(.tup [I 0,I 2,I 0,I 2,I 2,I 0,I 1,I 0,I 7,I 1]),(.tup [I 0,I 4,I 0,I 1,I 1,I 0,I 2,I 2,I 0,I 0]),(.tup [I 1,I 0,I 0,I 3,I 0,I 0,I 1,I 1,I 0,I 0]),(.tup [I 1,I 4,I 0,I 0,I 1,I 0,I 7,I 0,I 0,I 1]),(.tup [I 1,I 1,I 0,I 0,I 2,I 0,I 0,I 0,I 4,I 0]),(.tup [I 3,I 3,I 1,I 0,I 2,I 0,I 2,I 3,I 0,I 0]),(.tup [I 4,I 1,I 0,I 0,I 0,I 0,I 0,I 0,I 3,I 0]),(.tup [I 1,I 0,I 0,I 3,I 0,I 0,I 1,I 1,I 0,I 1])])) [(.expr (.meth (.loc 162) 0 [.loc 139]))])
def q12:QS:=(.for_ (.name 127) (.loc 159) [(.expr (.meth (.loc 162) 0 [(.call 60 [.loc 127])])),(.expr (.meth (.loc 162) 0 [(.call 60 [(.bin .Mod (.bin .Add (.bin .Mult (.loc 127) (cI 7)) (cI 5)) (cI 1658880))])]))])
def q13:QS:=(.forr (.name 23) (.bi 0 [.loc 162]) [(.ite (.not (.call 74 [.loc 137,.loc 154,(.sub (.loc 162) (.loc 23)),(.bin .Add (cI 200) (.loc 23))])) [(.ret (.const (.bool false)))] [])])
noncomputable def q14:QS:=(.ret (.const (.bool true)))
noncomputable def JKR (l:List Jo):Tr×Nat:=l.foldl (fun p o=>(p.1.put p.2 o,p.2+1)) (.nil,0)
def Jq (l:List Jo)(loc:Loc)(dom:JP):St:=⟨(JKR l).1,l.length,loc,[],dom⟩
def ob0:List Jo:=[.sdict Jfw,.sdict Jfp]
noncomputable abbrev Jfc:Loc:=[(158,.opq 0),(159,.opq 1)]
noncomputable def JkV:Nat×Nat:=(213,0)
def Jj:Scope:=H.fScope (Jav prog JkV)
def JaP:List Stmt:=H.fBody (Jav prog JkV)
theorem JG4:(JaP.drop 1).map (Jbz NT G 40 Jj)=[q1,q2,q3,q4,q5,q6,q7,q8,q9,q10,q11,q12,q13,q14]:=by kernel_rfl
noncomputable abbrev k1:D:=.tup [I 14,I 13]
noncomputable abbrev k2:D:=.tup [I 22,I 18]
noncomputable abbrev k3:D:=.tup [I 24,I 20]
def JM (b1 b2 b3:Bool):List (D×D):=(match b1 with | true=>[(k1,I 8)] | false=>[])++(match b2 with | true=>[(k2,I 2)] | false=>[])++(match b3 with | true=>[(k3,I 2)] | false=>[])
def gsC:List (Nat×D×D):=[(10,k1,I 8),(11,k2,I 2),(12,k3,I 2)]
noncomputable def JbI (l:List (D×D)):Jo:=match l with | []=>.dict 3 [] | _::_=>.dict 2 l
def obW (g:Jo):List Jo:=ob0++obA.take 30++[g]
def obX (g t:Jo):List Jo:=obW g++obC.take 29++[t]++obC.drop 30
def obY (g t a:Jo):List Jo:=obX g t++[a]
noncomputable abbrev JcK:Loc:=Jfc++[(137,.obj 30),(160,.int (.var 9 0))]
noncomputable abbrev JaE:Loc:=[(137,.obj 30),(154,.obj 45),(162,.obj 71)]
noncomputable def Jeu:QS→QS
 | .ite _ [x] _=>x
 | _=>.bad
def Jd:QS→List QS
 | .for_ _ _ b=>b
 | .forr _ _ b=>b
 | _=>[.bad]
theorem Jx0 (dm:JP)(k:Fl→St→Bool):(ev F C 400).Ss [q1,q2,q3] (Jq ob0 Jfc dm) k=k .next (Jq (obW (.dict 2 (JM true true true))) (Jfc++[(137,.obj 30)]) dm):=by kernel_rfl
theorem JM6 (dm:JP)(k:Fl→St→Bool):(ev F C 300).Ss [Jeu q5] (Jq (obW (.dict 2 (JM true true true))) JcK dm) k=k .next (Jq (obW (.dict 2 (JM true false true))) JcK dm):=by kernel_rfl
theorem JKm (b:Bool)(dm:JP)(k:Fl→St→Bool):(ev F C 300).Ss [Jeu q6] (Jq (obW (.dict 2 (JM true b true))) JcK dm) k=k .next (Jq (obW (.dict 2 (JM true b false))) JcK dm):=by cases b <;> kernel_rfl
theorem JKv (b b':Bool)(dm:JP)(k:Fl→St→Bool):(ev F C 300).Ss [Jeu q7] (Jq (obW (.dict 2 (JM true b b'))) JcK dm) k=k .next (Jq (obW (.dict 2 (JM false b b'))) JcK dm):=by cases b <;> cases b' <;> kernel_rfl
theorem JMV (l:List (D×D))(dm:JP)(k:Fl→St→Bool):(ev F C 400).Ss [q8] (Jq (obW (.dict 2 l)) JcK dm) k=k .next (Jq (obX (.dict 2 l) (.dict 3 [])) (JcK++[(154,.obj 45)]) dm):=by kernel_rfl
noncomputable abbrev dm0 (x y z:List Nat):JP:=[[0],[0],[0],[0],[0],[0],[0],[0],[0],[0],x,y,z]
def dgE:List Nat→IE→List D
 | [],_=>[]
 | r::rs,e=>.int (.op 4 e (.lit (.ofNat r)))::dgE rs (.op 3 e (.lit (.ofNat r)))
noncomputable def e1:IE:=.var 10 0
noncomputable def e2:IE:=.op 4 (.op 0 (.op 2 (.var 10 0) (.lit 7)) (.lit 5)) (.lit 1658880)
theorem JKJ (g t:Jo)(dm:JP)(k:Fl→St→Bool):(ev F C 300).assign (.name 127) (.int e1) (Jq (obY g t (.list 6 [])) JaE dm) (fun st=>(ev F C 300).Ss (Jd q12) st k) =
  k .next (Jq (obY g t (.list 6 [.tup (dgE JW e1),.tup (dgE JW e2)])++[.list 0 (dgE JW e1),.list 0 (dgE JW e2)]) (JaE++[(127,.int e1)]) dm):=by kernel_rfl
def JlG (ih:D→Bool)(d:D):Bool:=match d with
 | .int _=>true
 | .tab _ l=>Jw (fun p=>ih p.2) l
 | _=>false
def Jsj (n:Nat):D→Bool:=@Nat.rec (fun _=>D→Bool) (fun _=>false) (fun _ ih=>JlG ih) n
def Jfz:Loc→Loc→Bool
 | [],[]=>true
 | (x,a)::l,(y,b)::r=>(match Nat.beq x y with
  | true=>(match Jap a b with | true=>Jfz l r | false=>false)
  | false=>false)
 | _,_=>false
def JeA:List (D×D)→List (D×D)→Bool
 | [],[]=>true
 | (x,a)::l,(y,b)::r=>(match Jap x y with
  | true=>(match Jap a b with | true=>JeA l r | false=>false)
  | false=>false)
 | _,_=>false
def Jim:List (Nat×D×D)→List (Nat×D×D)→Bool
 | [],[]=>true
 | (i,x,a)::l,(j,y,b)::r=>(match Nat.beq i j with
  | true=>(match Jap x y with
   | true=>(match Jap a b with | true=>Jim l r | false=>false)
   | false=>false)
  | false=>false)
 | _,_=>false
def JoY (a b:Jo):Bool:=match a with
 | .inst c d=>match b with | .inst c' d'=>Jh (Nat.beq c c') (Nat.beq d d') | _=>false
 | .ns c l=>match b with | .ns c' r=>Jh (Nat.beq c c') (Jfz l r) | _=>false
 | .list t l=>match b with | .list u r=>Jh (Nat.beq t u) (Jap.goT l r) | _=>false
 | .dict k l=>match b with | .dict k' r=>Jh (Nat.beq k k') (JeA l r) | _=>false
 | .sdict l=>match b with | .sdict r=>JeA l r | _=>false
 | .idict l=>match b with | .idict r=>JeA l r | _=>false
 | .cdict l=>match b with | .cdict r=>Jim l r | _=>false
def Js6 (tr:Tr)(st:St)(i:Nat):Bool:=match st.objs.get i with
 | some a=>match tr.get i with | some b=>JoY a b | none=>false
 | none=>false
def Ji3 (t:Nat)(o:Option Jo):Option (List D):=match o with
 | some (.list u l)=>match Jcm l 60 with
  | true=>match Nat.beq u t with
   | true=>some l
   | false=>match u with | 0=>(match l with | []=>none | _::_=>some l) | _=>none
  | false=>none
 | _=>none
def JBu (n:Nat)(d:D):Bool:=match d with
 | .int (.var 1 (.ofNat k))=>Nat.blt k n
 | _=>false
def JCK (o:Option Jo):Bool:=match o with
 | some (.list t _)=>Nat.beq t 1
 | _=>false
def JfO (n:Nat)(o12 o:Option Jo):Bool:=match o with
 | some o=>match o with
  | .idict l=>Jh (JCK o12) (Jh (Jcm l 60) (Jw (fun p=>JBu n p.1) l))
  | .dict k _=>Nat.beq k 3
  | _=>false
 | none=>false
def Jk4 (a b:Option Jo):Bool:=match a with
 | some (.list t l)=>match b with
  | some (.list u r)=>Jh (Jh (Nat.beq t u) (okT t)) (Jh (Jcm l 60) (Jh (Jap.goT l r) (Jw (Jce 8) l)))
  | _=>false
 | _=>false
def Jf0:Loc→Loc→Bool
 | [],[]=>true
 | (x,a)::l,(y,b)::r=>Jh (Nat.beq x y) (Jh (match b with
  | .int (.var _ _)=>Jsj 4 a
  | b=>Jap a b) (Jf0 l r))
 | _,_=>false
def JkW (tr:Tr)(o:Option Jo):Bool:=match o with
 | some (.ns k l)=>match tr.get 44 with
  | some (.ns k' r)=>Jh (Nat.beq k k') (Jf0 l r)
  | _=>false
 | _=>false
noncomputable def Jms:List Nat:=[0,1,2,3,4,5,6,7,8,9,10,11,14,15,16,17,18,19,20,21,22,23,24,25,26,27,28,29,30,32,33,34,35,36,37,38,39,41,42,45,46,47,48,49,50,51,52,53,54,55,56,57,58,59,60,61,62,63,64,65,66,67,68,69,70,71]
def Jh0 (i:Nat)(o:Option D):Bool:=match o with | some (.obj j)=>Nat.beq i j | _=>false
def Jnu (l:Loc):Bool:=Jh (Jh0 30 (lkp l 137)) (Jh (Jh0 45 (lkp l 154)) (Jh0 71 (lkp l 162)))
def Jg (tr:Tr)(st:St):Bool:=match Ji3 1 (st.objs.get 12) with
 | some l=>match Ji3 2 (st.objs.get 13) with
  | some _=>Jh (Jk4 (st.objs.get 31) (st.objs.get 40)) (Jh (JfO l.length (st.objs.get 12) (st.objs.get 43)) (Jh (JkW tr (st.objs.get 44)) (Jh (Jnu st.loc) (Jw (Js6 tr st) Jms))))
  | none=>false
 | none=>false
noncomputable def Jr (P:St→Bool)(f:Fl)(st:St):Bool:=match f with | .next=>P st | .ret _=>false
noncomputable def Ja0:Tr:=(.node (.sdict [((I 0),I 20),((I 1),I 9),((I 2),I 10),((I 3),I 11),((I 4),I 12),((I 5),I 13),((I 6),I 14),((I 7),I 15),((I 8),I 16),((I 9),I 17),((I 10),I 18),((I 11),I 19),((I 12),I 1),((I 13),I 4)]) (.node (.sdict [((I 20),I 0),((I 9),I 1),((I 10),I 2),((I 11),I 3),((I 12),I 4),((I 13),I 5),((I 14),I 6),((I 15),I 7),((I 16),I 8),((I 17),I 9),((I 18),I 10),((I 19),I 11),((I 1),I 12),((I 4),I 13)]) (.node (.inst 2 2) (.node (.dict 2 [((.tup [I 1,I 0]),I 0),((.tup [I 1,I 1]),I 1),((.tup [I 1,I 2]),I 2),((.tup [I 1,I 3]),I 3),((.tup [I 1,I 4]),I 4),((.tup [I 1,I 5]),I 5),((.tup [I 1,I 6]),I 6),((.tup [I 1,I 7]),I 7),((.tup [I 1,I 8]),I 8),((.tup [I 1,I 9]),I 9),((.tup [I 1,I 10]),I 10),((.tup [I 1,I 11]),I 11),((.tup [I 1,I 12]),I 12),((.tup [I 1,I 13]),I 13),((.tup [I 1,I 14]),I 14),((.tup [I 1,I 15]),I 15),((.tup [I 6,I 0]),I 16),((.tup [I 2,I 21,(.tup [I 13])]),I 17),((.tup [I 2,I 22,(.tup [])]),I 18),((.tup [I 3,I 23,(.tup [])]),I 19),((.tup [I 2,I 24,(.tup [])]),I 20),((.tup [I 2,I 21,(.tup [I 7])]),I 21),((.tup [I 6,I 1]),I 22),((.tup [I 6,I 2]),I 23),((.tup [I 6,I 3]),I 24)]) (.node (.list 0 []) (.node (.list 5 []) (.node (.dict 3 []) .nil .nil) .nil) (.node (.dict 3 []) .nil .nil)) (.node (.dict 3 []) (.node (.inst 4 38) (.node (.list 6 []) .nil .nil) .nil) (.node (.list 0 []) .nil .nil))) (.node (.list 0 [.none]) (.node (.dict 3 []) (.node (.list 0 [.none]) (.node (.inst 8 66) .nil .nil) .nil) (.node (.dict 3 []) .nil .nil)) (.node (.dict 0 [((I 22),I 18),((I 23),I 12),((I 24),I 12)]) (.node (.idict []) .nil .nil) (.node (.inst 6 58) .nil .nil)))) (.node (.inst 0 4) (.node (.list 0 [I 1,I 1,I 1,I 1,I 1,I 1,I 1,I 1,I 1,I 1,I 1,I 1,I 1,I 1,I 1,I 1,I 1,I 2,I 1,I 1,I 1,I 2,I 1,I 1,I 1]) (.node (.inst 11 16) (.node (.ns 5 [(42,.obj 3),(60,I 0),(61,.obj 35),(62,.obj 36),(63,.obj 37),(64,.obj 39),(65,.obj 41),(66,.obj 42),(67,.obj 43)]) (.node (.dict 3 []) .nil .nil) .nil) (.node (.dict 3 []) .nil .nil)) (.node (.dict 3 []) (.node (.dict 3 []) .nil .nil) (.node (.list 0 []) .nil .nil))) (.node (.list 2 []) (.node (.dict 3 []) (.node (.dict 3 []) (.node (.inst 9 68) .nil .nil) .nil) (.node (.list 0 []) .nil .nil)) (.node (.dict 0 [((I 24),I 1)]) (.node (.inst 10 44) .nil .nil) (.node (.inst 7 60) .nil .nil))))) (.node (.ns 2 [(18,.obj 5),(36,.obj 11),(37,.obj 12),(38,.obj 13),(39,.obj 14),(40,.obj 15),(41,I 0)]) (.node (.ns 0 [(3,.obj 6),(4,.obj 7),(5,.obj 8),(6,.obj 9),(7,.obj 10)]) (.node (.list 0 [I 1,I 1,I 1,I 1,I 1,I 1,I 1,I 1,I 1,I 1,I 1,I 1,I 1,I 1,I 1,I 1,I 1,I 2,I 1,I 1,I 1,I 2,I 1,I 1,I 1]) (.node (.ns 11 [(18,.obj 5),(121,.obj 27),(122,.obj 19),(123,.obj 26),(124,.obj 21),(70,.obj 22),(52,.obj 28),(53,.obj 29),(125,.obj 25)]) (.node (.cdict [(10,(.tup [I 14,I 13]),I 8),(11,(.tup [I 22,I 18]),I 2),(12,(.tup [I 24,I 20]),I 2)]) (.node (.dict 3 []) .nil .nil) .nil) (.node (.list 0 []) .nil .nil)) (.node (.dict 3 []) (.node (.list 5 []) .nil .nil) (.node (.dict 3 []) .nil .nil))) (.node (.list 1 []) (.node (.dict 3 []) (.node (.list 0 [.none]) (.node (.ns 9 []) .nil .nil) .nil) (.node (.list 0 []) .nil .nil)) (.node (.dict 0 [((I 22),(.tup [I 18])),((I 23),(.tup [I 20])),((I 24),(.tup [I 20]))]) (.node (.ns 10 [(78,.obj 34),(42,.obj 3),(18,.obj 5),(47,.obj 17),(60,I 0),(79,.obj 46),(80,.obj 47),(81,.obj 48),(64,.obj 39),(82,.obj 49),(83,.obj 50),(36,.obj 51),(84,.obj 52),(3,.obj 53),(85,.obj 54),(86,.none),(30,(.int (.var 20 0))),(87,I 0),(88,(.int (.var 21 0))),(89,(.int (.var 22 0))),(90,(.int (.var 23 0))),(91,I 0),(92,.obj 55),(93,I 0),(94,.obj 56),(95,.obj 57),(96,.obj 59),(77,.obj 61),(97,.obj 67),(98,.obj 69),(99,I 0),(100,I 0),(57,I 0),(101,.obj 70)]) .nil .nil) (.node (.ns 7 [(68,.obj 62),(69,.obj 63),(70,.obj 64),(71,.obj 65)]) .nil .nil)))) (.node (.list 0 [(.tup [I 1,I 0]),(.tup [I 1,I 1]),(.tup [I 1,I 2]),(.tup [I 1,I 3]),(.tup [I 1,I 4]),(.tup [I 1,I 5]),(.tup [I 1,I 6]),(.tup [I 1,I 7]),(.tup [I 1,I 8]),(.tup [I 1,I 9]),(.tup [I 1,I 10]),(.tup [I 1,I 11]),(.tup [I 1,I 12]),(.tup [I 1,I 13]),(.tup [I 1,I 14]),(.tup [I 1,I 15]),(.tup [I 6,I 0]),(.tup [I 2,I 21,(.tup [I 13])]),(.tup [I 2,I 22,(.tup [])]),(.tup [I 3,I 23,(.tup [])]),(.tup [I 2,I 24,(.tup [])]),(.tup [I 2,I 21,(.tup [I 7])]),(.tup [I 6,I 1]),(.tup [I 6,I 2]),(.tup [I 6,I 3])]) (.node (.list 0 [I 0,I 0,I 0,I 0,I 0,I 0,I 0,I 0,I 0,I 0,I 0,I 0,I 0,I 0,I 0,I 0,I 1,I 0,I 0,I 0,I 0,I 0,I 1,I 1,I 1]) (.node (.dict 3 []) (.node (.inst 5 33) (.node (.ns 8 []) .nil .nil) .nil) (.node (.dict 3 []) .nil .nil)) (.node (.dict 0 [((I 21),I 1),((I 22),I 1),((I 23),I 2),((I 24),I 3)]) (.node (.dict 3 []) .nil .nil) (.node (.ns 6 []) .nil .nil))) (.node (.dict 3 []) (.node (.dict 3 []) (.node (.ns 4 [(3,.obj 40)]) (.node (.dict 3 []) .nil .nil) .nil) (.node (.dict 3 []) .nil .nil)) (.node (.dict 1 [((.str (.lit "store")),.obj 3),((.str (.lit "host")),.obj 17),((.str (.lit "loose")),I 16),((.str (.lit "heir")),I 18),((.str (.lit "box")),I 19),((.str (.lit "face")),I 20),((.str (.lit "firm")),I 22),((.str (.lit "other")),I 23),((.str (.lit "marked")),I 24),((.str (.lit "spots")),(.tup [(.tup [I 18,I 18,I 22,I 7]),(.tup [I 18,I 17,I 21,I 13]),(.tup [I 21,I 21,I 21,I 7]),(.tup [I 19,I 19,I 23,I 7]),(.tup [I 20,I 20,I 24,I 7]),(.tup [I 22,I 17,I 21,I 13]),(.tup [I 23,I 20,I 24,I 7]),(.tup [I 24,I 20,I 24,I 7]),(.tup [I 7,I 7,I 15,I 7]),(.tup [I 13,I 12,I 1,I 7]),(.tup [I 12,I 12,I 1,I 7])])),((.str (.lit "told")),.obj 31),((.str (.lit "goes")),.obj 32)]) (.node (.dict 3 []) .nil .nil) (.node (.cdict [(10,(.tup [I 14,I 13]),I 8),(11,(.tup [I 22,I 18]),I 2),(12,(.tup [I 24,I 20]),I 2)]) .nil .nil))))))
noncomputable def trB:Tr:=(.node (.sdict [((I 0),I 20),((I 1),I 9),((I 2),I 10),((I 3),I 11),((I 4),I 12),((I 5),I 13),((I 6),I 14),((I 7),I 15),((I 8),I 16),((I 9),I 17),((I 10),I 18),((I 11),I 19),((I 12),I 1),((I 13),I 4)]) (.node (.sdict [((I 20),I 0),((I 9),I 1),((I 10),I 2),((I 11),I 3),((I 12),I 4),((I 13),I 5),((I 14),I 6),((I 15),I 7),((I 16),I 8),((I 17),I 9),((I 18),I 10),((I 19),I 11),((I 1),I 12),((I 4),I 13)]) (.node (.inst 2 2) (.node (.dict 2 [((.tup [I 1,I 0]),I 0),((.tup [I 1,I 1]),I 1),((.tup [I 1,I 2]),I 2),((.tup [I 1,I 3]),I 3),((.tup [I 1,I 4]),I 4),((.tup [I 1,I 5]),I 5),((.tup [I 1,I 6]),I 6),((.tup [I 1,I 7]),I 7),((.tup [I 1,I 8]),I 8),((.tup [I 1,I 9]),I 9),((.tup [I 1,I 10]),I 10),((.tup [I 1,I 11]),I 11),((.tup [I 1,I 12]),I 12),((.tup [I 1,I 13]),I 13),((.tup [I 1,I 14]),I 14),((.tup [I 1,I 15]),I 15),((.tup [I 6,I 0]),I 16),((.tup [I 2,I 21,(.tup [I 13])]),I 17),((.tup [I 2,I 22,(.tup [])]),I 18),((.tup [I 3,I 23,(.tup [])]),I 19),((.tup [I 2,I 24,(.tup [])]),I 20),((.tup [I 2,I 21,(.tup [I 7])]),I 21),((.tup [I 6,I 1]),I 22),((.tup [I 6,I 2]),I 23),((.tup [I 6,I 3]),I 24),((.tup [I 2,I 21,(.tup [I 16])]),I 25)]) (.node (.list 0 []) (.node (.list 5 []) (.node (.dict 3 []) .nil .nil) .nil) (.node (.dict 3 []) .nil .nil)) (.node (.dict 3 []) (.node (.inst 4 38) (.node (.list 6 []) .nil .nil) .nil) (.node (.list 0 []) .nil .nil))) (.node (.list 0 [.none]) (.node (.dict 3 []) (.node (.list 0 [.none]) (.node (.inst 8 66) .nil .nil) .nil) (.node (.dict 3 []) .nil .nil)) (.node (.dict 0 [((I 22),I 18),((I 23),I 12),((I 24),I 12)]) (.node (.idict []) .nil .nil) (.node (.inst 6 58) .nil .nil)))) (.node (.inst 0 4) (.node (.list 0 [I 1,I 1,I 1,I 1,I 1,I 1,I 1,I 1,I 1,I 1,I 1,I 1,I 1,I 1,I 1,I 1,I 1,I 2,I 1,I 1,I 1,I 2,I 1,I 1,I 1,I 2]) (.node (.inst 11 16) (.node (.ns 5 [(42,.obj 3),(60,I 0),(61,.obj 35),(62,.obj 36),(63,.obj 37),(64,.obj 39),(65,.obj 41),(66,.obj 42),(67,.obj 43)]) (.node (.dict 3 []) .nil .nil) .nil) (.node (.dict 3 []) .nil .nil)) (.node (.dict 3 []) (.node (.dict 3 []) .nil .nil) (.node (.list 0 []) .nil .nil))) (.node (.list 2 []) (.node (.dict 3 []) (.node (.dict 3 []) (.node (.inst 9 68) .nil .nil) .nil) (.node (.list 0 []) .nil .nil)) (.node (.dict 0 [((I 24),I 1)]) (.node (.inst 10 44) .nil .nil) (.node (.inst 7 60) .nil .nil))))) (.node (.ns 2 [(18,.obj 5),(36,.obj 11),(37,.obj 12),(38,.obj 13),(39,.obj 14),(40,.obj 15),(41,I 0)]) (.node (.ns 0 [(3,.obj 6),(4,.obj 7),(5,.obj 8),(6,.obj 9),(7,.obj 10)]) (.node (.list 0 [I 1,I 1,I 1,I 1,I 1,I 1,I 1,I 1,I 1,I 1,I 1,I 1,I 1,I 1,I 1,I 1,I 1,I 2,I 1,I 1,I 1,I 2,I 1,I 1,I 1,I 2]) (.node (.ns 11 [(18,.obj 5),(121,.obj 27),(122,.obj 19),(123,.obj 26),(124,.obj 21),(70,.obj 22),(52,.obj 28),(53,.obj 29),(125,.obj 25)]) (.node (.cdict [(10,(.tup [I 14,I 13]),I 8),(11,(.tup [I 22,I 18]),I 2),(12,(.tup [I 24,I 20]),I 2)]) (.node (.dict 3 []) .nil .nil) .nil) (.node (.list 0 []) .nil .nil)) (.node (.dict 3 []) (.node (.list 5 []) .nil .nil) (.node (.dict 3 []) .nil .nil))) (.node (.list 1 []) (.node (.dict 3 []) (.node (.list 0 [.none]) (.node (.ns 9 []) .nil .nil) .nil) (.node (.list 0 []) .nil .nil)) (.node (.dict 0 [((I 22),(.tup [I 18])),((I 23),(.tup [I 20])),((I 24),(.tup [I 20]))]) (.node (.ns 10 [(78,.obj 34),(42,.obj 3),(18,.obj 5),(47,.obj 17),(60,I 0),(79,.obj 46),(80,.obj 47),(81,.obj 48),(64,.obj 39),(82,.obj 49),(83,.obj 50),(36,.obj 51),(84,.obj 52),(3,.obj 53),(85,.obj 54),(86,.none),(30,(.int (.var 20 0))),(87,I 0),(88,(.int (.var 21 0))),(89,(.int (.var 22 0))),(90,(.int (.var 23 0))),(91,I 0),(92,.obj 55),(93,I 0),(94,.obj 56),(95,.obj 57),(96,.obj 59),(77,.obj 61),(97,.obj 67),(98,.obj 69),(99,I 0),(100,I 0),(57,I 0),(101,.obj 70)]) .nil .nil) (.node (.ns 7 [(68,.obj 62),(69,.obj 63),(70,.obj 64),(71,.obj 65)]) .nil .nil)))) (.node (.list 0 [(.tup [I 1,I 0]),(.tup [I 1,I 1]),(.tup [I 1,I 2]),(.tup [I 1,I 3]),(.tup [I 1,I 4]),(.tup [I 1,I 5]),(.tup [I 1,I 6]),(.tup [I 1,I 7]),(.tup [I 1,I 8]),(.tup [I 1,I 9]),(.tup [I 1,I 10]),(.tup [I 1,I 11]),(.tup [I 1,I 12]),(.tup [I 1,I 13]),(.tup [I 1,I 14]),(.tup [I 1,I 15]),(.tup [I 6,I 0]),(.tup [I 2,I 21,(.tup [I 13])]),(.tup [I 2,I 22,(.tup [])]),(.tup [I 3,I 23,(.tup [])]),(.tup [I 2,I 24,(.tup [])]),(.tup [I 2,I 21,(.tup [I 7])]),(.tup [I 6,I 1]),(.tup [I 6,I 2]),(.tup [I 6,I 3]),(.tup [I 2,I 21,(.tup [I 16])])]) (.node (.list 0 [I 0,I 0,I 0,I 0,I 0,I 0,I 0,I 0,I 0,I 0,I 0,I 0,I 0,I 0,I 0,I 0,I 1,I 0,I 0,I 0,I 0,I 0,I 1,I 1,I 1,I 1]) (.node (.dict 3 []) (.node (.inst 5 33) (.node (.ns 8 []) .nil .nil) .nil) (.node (.dict 3 []) .nil .nil)) (.node (.dict 0 [((I 21),I 1),((I 22),I 1),((I 23),I 2),((I 24),I 3)]) (.node (.dict 3 []) .nil .nil) (.node (.ns 6 []) .nil .nil))) (.node (.dict 3 []) (.node (.dict 3 []) (.node (.ns 4 [(3,.obj 40)]) (.node (.dict 3 []) .nil .nil) .nil) (.node (.dict 3 []) .nil .nil)) (.node (.dict 1 [((.str (.lit "store")),.obj 3),((.str (.lit "host")),.obj 17),((.str (.lit "loose")),I 16),((.str (.lit "heir")),I 18),((.str (.lit "box")),I 19),((.str (.lit "face")),I 20),((.str (.lit "firm")),I 22),((.str (.lit "other")),I 23),((.str (.lit "marked")),I 24),((.str (.lit "spots")),(.tup [(.tup [I 18,I 18,I 22,I 7]),(.tup [I 18,I 17,I 21,I 13]),(.tup [I 21,I 21,I 21,I 7]),(.tup [I 19,I 19,I 23,I 7]),(.tup [I 20,I 20,I 24,I 7]),(.tup [I 22,I 17,I 21,I 13]),(.tup [I 23,I 20,I 24,I 7]),(.tup [I 24,I 20,I 24,I 7]),(.tup [I 7,I 7,I 15,I 7]),(.tup [I 13,I 12,I 1,I 7]),(.tup [I 12,I 12,I 1,I 7])])),((.str (.lit "told")),.obj 31),((.str (.lit "goes")),.obj 32)]) (.node (.dict 3 []) .nil .nil) (.node (.cdict [(10,(.tup [I 14,I 13]),I 8),(11,(.tup [I 22,I 18]),I 2),(12,(.tup [I 24,I 20]),I 2)]) .nil .nil))))))
noncomputable def Jco:JP:=[[0,1,2,3,4,5],[0,1,2,3,4],[0,1,2],[0,1,2,3],[0,1,2],[0,1,2],[0,1,2,3,4,5,6,7],[0,1,2,3],[0,1,2,3,4,5,6,7],[0,1],[0,1],[0,1],[0,1]]
def stA (d:D):St:=⟨Ja0,72,JaE++[(23,d)],[],Jco⟩
def stB (d:D)(dm:JP):St:=⟨trB,72,JaE++[(23,d)],[],dm⟩
theorem JDE:Jg Ja0 (Jq (obY (.cdict gsC) (.cdict gsC) (.list 6 [])) JaE Jco)=true:=by kernel_rfl
theorem kA0:(ev F C 300).Ss (Jd q13) (stA (I 0)) (Jr (Jg Ja0))=true:=by kernel_rfl
theorem kA1:(ev F C 300).Ss (Jd q13) (stA (I 1)) (Jr (Jg Ja0))=true:=by kernel_rfl
theorem kA2:(ev F C 300).Ss (Jd q13) (stA (I 2)) (Jr (Jg Ja0))=true:=by kernel_rfl
theorem kA3:(ev F C 300).Ss (Jd q13) (stA (I 3)) (Jr (Jg Ja0))=true:=by kernel_rfl
theorem kA4:(ev F C 300).Ss (Jd q13) (stA (I 4)) (Jr (Jg Ja0))=true:=by kernel_rfl
theorem kA5:(ev F C 300).Ss (Jd q13) (stA (I 5)) (Jr (Jg Ja0))=true:=by kernel_rfl
theorem kA6:(ev F C 300).Ss (Jd q13) (stA (I 6)) (Jr (Jg Ja0))=true:=by kernel_rfl
theorem kA7:(ev F C 300).Ss (Jd q13) (stA (I 7)) (Jr (Jg Ja0))=true:=by kernel_rfl
theorem kA8:(ev F C 300).Ss (Jd q13) (stA (I 8)) (Jr (Jg Ja0))=true:=by kernel_rfl
theorem kA9:(ev F C 300).Ss (Jd q13) (stA (I 9)) (Jr (Jg Ja0))=true:=by kernel_rfl
theorem JKx:(ev F C 300).Ss (Jd q13) (stA (I 10)) (Jr (Jg Ja0))=true:=by kernel_rfl
theorem JHg:(ev F C 300).Ss (Jd q13) (stA (I 11)) (Jr (Jg Ja0))=true:=by kernel_rfl
theorem JJs:(ev F C 300).Ss (Jd q13) (stA (I 12)) (Jr (Jg Ja0))=true:=by kernel_rfl
theorem JK2:(ev F C 300).Ss (Jd q13) (stA (I 13)) (Jr (Jg trB))=true:=by kernel_rfl
theorem Jza:(ev F C 300).Ss (Jd q13) (stB (.int (.var 3 (.negSucc 199))) [[0],[0],[0,1,2],[0,1,2,3],[0,1,2],[0,1,2],[0,1,2,3,4,5,6,7],[0,1,2,3],[0,1,2,3,4,5,6,7],[0,1],[0,1],[0,1],[0,1]]) (Jr (Jg trB))=true:=by kernel_rfl
theorem Jwy:(ev F C 300).Ss (Jd q13) (stB (.int (.var 3 (.negSucc 199))) [[0],[1],[0,1,2],[0,1,2,3],[0,1,2],[0,1,2],[0,1,2,3,4,5,6,7],[0,1,2,3],[0,1,2,3,4,5,6,7],[0,1],[0,1],[0,1],[0,1]]) (Jr (Jg trB))=true:=by kernel_rfl
theorem JB8:(ev F C 300).Ss (Jd q13) (stB (.int (.var 3 (.negSucc 199))) [[0],[2],[0,1,2],[0,1,2,3],[0,1,2],[0,1,2],[0,1,2,3,4,5,6,7],[0,1,2,3],[0,1,2,3,4,5,6,7],[0,1],[0,1],[0,1],[0,1]]) (Jr (Jg trB))=true:=by kernel_rfl
theorem JBZ:(ev F C 300).Ss (Jd q13) (stB (.int (.var 3 (.negSucc 199))) [[0],[3],[0,1,2],[0,1,2,3],[0,1,2],[0,1,2],[0,1,2,3,4,5,6,7],[0,1,2,3],[0,1,2,3,4,5,6,7],[0,1],[0,1],[0,1],[0,1]]) (Jr (Jg trB))=true:=by kernel_rfl
theorem JyN:(ev F C 300).Ss (Jd q13) (stB (.int (.var 3 (.negSucc 199))) [[0],[4],[0,1,2],[0,1,2,3],[0,1,2],[0,1,2],[0,1,2,3,4,5,6,7],[0,1,2,3],[0,1,2,3,4,5,6,7],[0,1],[0,1],[0,1],[0,1]]) (Jr (Jg trB))=true:=by kernel_rfl
theorem Jrw:(ev F C 300).Ss (Jd q13) (stB (.int (.var 3 (.negSucc 199))) [[1],[0],[0,1,2],[0,1,2,3],[0],[0,1,2],[0,1,2,3,4,5,6,7],[0,1,2,3],[0,1,2,3,4,5,6,7],[0,1],[0,1],[0,1],[0,1]]) (Jr (Jg trB))=true:=by kernel_rfl
theorem JqE:(ev F C 300).Ss (Jd q13) (stB (.int (.var 3 (.negSucc 199))) [[1],[0],[0,1,2],[0,1,2,3],[1],[0,1,2],[0,1,2,3,4,5,6,7],[0,1,2,3],[0,1,2,3,4,5,6,7],[0,1],[0,1],[0,1],[0,1]]) (Jr (Jg trB))=true:=by kernel_rfl
theorem Jrh:(ev F C 300).Ss (Jd q13) (stB (.int (.var 3 (.negSucc 199))) [[1],[0],[0,1,2],[0,1,2,3],[2],[0,1,2],[0,1,2,3,4,5,6,7],[0,1,2,3],[0,1,2,3,4,5,6,7],[0,1],[0,1],[0,1],[0,1]]) (Jr (Jg trB))=true:=by kernel_rfl
theorem JrB:(ev F C 300).Ss (Jd q13) (stB (.int (.var 3 (.negSucc 199))) [[1],[1],[0,1,2],[0,1,2,3],[0],[0,1,2],[0,1,2,3,4,5,6,7],[0,1,2,3],[0,1,2,3,4,5,6,7],[0,1],[0,1],[0,1],[0,1]]) (Jr (Jg trB))=true:=by kernel_rfl
theorem Jq5:(ev F C 300).Ss (Jd q13) (stB (.int (.var 3 (.negSucc 199))) [[1],[1],[0,1,2],[0,1,2,3],[1],[0,1,2],[0,1,2,3,4,5,6,7],[0,1,2,3],[0,1,2,3,4,5,6,7],[0,1],[0,1],[0,1],[0,1]]) (Jr (Jg trB))=true:=by kernel_rfl
theorem Jp7:(ev F C 300).Ss (Jd q13) (stB (.int (.var 3 (.negSucc 199))) [[1],[1],[0,1,2],[0,1,2,3],[2],[0,1,2],[0,1,2,3,4,5,6,7],[0,1,2,3],[0,1,2,3,4,5,6,7],[0,1],[0,1],[0,1],[0,1]]) (Jr (Jg trB))=true:=by kernel_rfl
theorem Jp9:(ev F C 300).Ss (Jd q13) (stB (.int (.var 3 (.negSucc 199))) [[1],[2],[0,1,2],[0,1,2,3],[0],[0,1,2],[0,1,2,3,4,5,6,7],[0,1,2,3],[0,1,2,3,4,5,6,7],[0,1],[0,1],[0,1],[0,1]]) (Jr (Jg trB))=true:=by kernel_rfl
theorem JpD:(ev F C 300).Ss (Jd q13) (stB (.int (.var 3 (.negSucc 199))) [[1],[2],[0,1,2],[0,1,2,3],[1],[0,1,2],[0,1,2,3,4,5,6,7],[0,1,2,3],[0,1,2,3,4,5,6,7],[0,1],[0,1],[0,1],[0,1]]) (Jr (Jg trB))=true:=by kernel_rfl
theorem Jqe:(ev F C 300).Ss (Jd q13) (stB (.int (.var 3 (.negSucc 199))) [[1],[2],[0,1,2],[0,1,2,3],[2],[0,1,2],[0,1,2,3,4,5,6,7],[0,1,2,3],[0,1,2,3,4,5,6,7],[0,1],[0,1],[0,1],[0,1]]) (Jr (Jg trB))=true:=by kernel_rfl
theorem Jp5:(ev F C 300).Ss (Jd q13) (stB (.int (.var 3 (.negSucc 199))) [[1],[3],[0,1,2],[0,1,2,3],[0],[0,1,2],[0,1,2,3,4,5,6,7],[0,1,2,3],[0,1,2,3,4,5,6,7],[0,1],[0,1],[0,1],[0,1]]) (Jr (Jg trB))=true:=by kernel_rfl
theorem Jrn:(ev F C 300).Ss (Jd q13) (stB (.int (.var 3 (.negSucc 199))) [[1],[3],[0,1,2],[0,1,2,3],[1],[0,1,2],[0,1,2,3,4,5,6,7],[0,1,2,3],[0,1,2,3,4,5,6,7],[0,1],[0,1],[0,1],[0,1]]) (Jr (Jg trB))=true:=by kernel_rfl
theorem Jqm:(ev F C 300).Ss (Jd q13) (stB (.int (.var 3 (.negSucc 199))) [[1],[3],[0,1,2],[0,1,2,3],[2],[0,1,2],[0,1,2,3,4,5,6,7],[0,1,2,3],[0,1,2,3,4,5,6,7],[0,1],[0,1],[0,1],[0,1]]) (Jr (Jg trB))=true:=by kernel_rfl
theorem Jpz:(ev F C 300).Ss (Jd q13) (stB (.int (.var 3 (.negSucc 199))) [[1],[4],[0,1,2],[0,1,2,3],[0],[0,1,2],[0,1,2,3,4,5,6,7],[0,1,2,3],[0,1,2,3,4,5,6,7],[0,1],[0,1],[0,1],[0,1]]) (Jr (Jg trB))=true:=by kernel_rfl
theorem Jp0:(ev F C 300).Ss (Jd q13) (stB (.int (.var 3 (.negSucc 199))) [[1],[4],[0,1,2],[0,1,2,3],[1],[0,1,2],[0,1,2,3,4,5,6,7],[0,1,2,3],[0,1,2,3,4,5,6,7],[0,1],[0,1],[0,1],[0,1]]) (Jr (Jg trB))=true:=by kernel_rfl
theorem JpT:(ev F C 300).Ss (Jd q13) (stB (.int (.var 3 (.negSucc 199))) [[1],[4],[0,1,2],[0,1,2,3],[2],[0,1,2],[0,1,2,3,4,5,6,7],[0,1,2,3],[0,1,2,3,4,5,6,7],[0,1],[0,1],[0,1],[0,1]]) (Jr (Jg trB))=true:=by kernel_rfl
theorem JwL:(ev F C 300).Ss (Jd q13) (stB (.int (.var 3 (.negSucc 199))) [[2],[0],[0,1,2],[0,1,2,3],[0,1,2],[0,1,2],[0,1,2,3,4,5,6,7],[0,1,2,3],[0,1,2,3,4,5,6,7],[0,1],[0,1],[0,1],[0,1]]) (Jr (Jg trB))=true:=by kernel_rfl
theorem JBw:(ev F C 300).Ss (Jd q13) (stB (.int (.var 3 (.negSucc 199))) [[2],[1],[0,1,2],[0,1,2,3],[0,1,2],[0,1,2],[0,1,2,3,4,5,6,7],[0,1,2,3],[0,1,2,3,4,5,6,7],[0,1],[0,1],[0,1],[0,1]]) (Jr (Jg trB))=true:=by kernel_rfl
theorem JFj:(ev F C 300).Ss (Jd q13) (stB (.int (.var 3 (.negSucc 199))) [[2],[2],[0,1,2],[0,1,2,3],[0,1,2],[0,1,2],[0,1,2,3,4,5,6,7],[0,1,2,3],[0,1,2,3,4,5,6,7],[0,1],[0,1],[0,1],[0,1]]) (Jr (Jg trB))=true:=by kernel_rfl
theorem JEh:(ev F C 300).Ss (Jd q13) (stB (.int (.var 3 (.negSucc 199))) [[2],[3],[0,1,2],[0,1,2,3],[0,1,2],[0,1,2],[0,1,2,3,4,5,6,7],[0,1,2,3],[0,1,2,3,4,5,6,7],[0,1],[0,1],[0,1],[0,1]]) (Jr (Jg trB))=true:=by kernel_rfl
theorem JCi:(ev F C 300).Ss (Jd q13) (stB (.int (.var 3 (.negSucc 199))) [[2],[4],[0,1,2],[0,1,2,3],[0,1,2],[0,1,2],[0,1,2,3,4,5,6,7],[0,1,2,3],[0,1,2,3,4,5,6,7],[0,1],[0,1],[0,1],[0,1]]) (Jr (Jg trB))=true:=by kernel_rfl
theorem Jxy:(ev F C 300).Ss (Jd q13) (stB (.int (.var 3 (.negSucc 199))) [[3],[0],[0,1,2],[0,1,2,3],[0,1,2],[0,1,2],[0,1,2,3,4,5,6,7],[0,1,2,3],[0,1,2,3,4,5,6,7],[0,1],[0,1],[0,1],[0,1]]) (Jr (Jg trB))=true:=by kernel_rfl
theorem Jxz:(ev F C 300).Ss (Jd q13) (stB (.int (.var 3 (.negSucc 199))) [[3],[1],[0,1,2],[0,1,2,3],[0,1,2],[0,1,2],[0,1,2,3,4,5,6,7],[0,1,2,3],[0,1,2,3,4,5,6,7],[0,1],[0,1],[0,1],[0,1]]) (Jr (Jg trB))=true:=by kernel_rfl
theorem Jyj:(ev F C 300).Ss (Jd q13) (stB (.int (.var 3 (.negSucc 199))) [[3],[2],[0,1,2],[0,1,2,3],[0,1,2],[0,1,2],[0,1,2,3,4,5,6,7],[0,1,2,3],[0,1,2,3,4,5,6,7],[0,1],[0,1],[0,1],[0,1]]) (Jr (Jg trB))=true:=by kernel_rfl
theorem JxU:(ev F C 300).Ss (Jd q13) (stB (.int (.var 3 (.negSucc 199))) [[3],[3],[0,1,2],[0,1,2,3],[0,1,2],[0,1,2],[0,1,2,3,4,5,6,7],[0,1,2,3],[0,1,2,3,4,5,6,7],[0,1],[0,1],[0,1],[0,1]]) (Jr (Jg trB))=true:=by kernel_rfl
theorem JAd:(ev F C 300).Ss (Jd q13) (stB (.int (.var 3 (.negSucc 199))) [[3],[4],[0,1,2],[0,1,2,3],[0,1,2],[0,1,2],[0,1,2,3,4,5,6,7],[0,1,2,3],[0,1,2,3,4,5,6,7],[0,1],[0,1],[0,1],[0,1]]) (Jr (Jg trB))=true:=by kernel_rfl
theorem JET:(ev F C 300).Ss (Jd q13) (stB (.int (.var 3 (.negSucc 199))) [[4],[0],[0,1,2],[0,1,2,3],[0,1,2],[0,1,2],[0,1,2,3,4,5,6,7],[0,1,2,3],[0,1,2,3,4,5,6,7],[0,1],[0,1],[0,1],[0,1]]) (Jr (Jg trB))=true:=by kernel_rfl
theorem Jwx:(ev F C 300).Ss (Jd q13) (stB (.int (.var 3 (.negSucc 199))) [[4],[1],[0,1,2],[0,1,2,3],[0,1,2],[0,1,2],[0,1,2,3,4,5,6,7],[0,1,2,3],[0,1,2,3,4,5,6,7],[0,1],[0,1],[0,1],[0,1]]) (Jr (Jg trB))=true:=by kernel_rfl
theorem JyF:(ev F C 300).Ss (Jd q13) (stB (.int (.var 3 (.negSucc 199))) [[4],[2],[0,1,2],[0,1,2,3],[0,1,2],[0,1,2],[0,1,2,3,4,5,6,7],[0,1,2,3],[0,1,2,3,4,5,6,7],[0,1],[0,1],[0,1],[0,1]]) (Jr (Jg trB))=true:=by kernel_rfl
theorem JDC:(ev F C 300).Ss (Jd q13) (stB (.int (.var 3 (.negSucc 199))) [[4],[3],[0,1,2],[0,1,2,3],[0,1,2],[0,1,2],[0,1,2,3,4,5,6,7],[0,1,2,3],[0,1,2,3,4,5,6,7],[0,1],[0,1],[0,1],[0,1]]) (Jr (Jg trB))=true:=by kernel_rfl
theorem JEi:(ev F C 300).Ss (Jd q13) (stB (.int (.var 3 (.negSucc 199))) [[4],[4],[0,1,2],[0,1,2,3],[0,1,2],[0,1,2],[0,1,2,3,4,5,6,7],[0,1,2,3],[0,1,2,3,4,5,6,7],[0,1],[0,1],[0,1],[0,1]]) (Jr (Jg trB))=true:=by kernel_rfl
theorem Jya:(ev F C 300).Ss (Jd q13) (stB (.int (.var 3 (.negSucc 199))) [[5],[0],[0,1,2],[0,1,2,3],[0,1,2],[0,1,2],[0,1,2,3,4,5,6,7],[0,1,2,3],[0,1,2,3,4,5,6,7],[0,1],[0,1],[0,1],[0,1]]) (Jr (Jg trB))=true:=by kernel_rfl
theorem JCW:(ev F C 300).Ss (Jd q13) (stB (.int (.var 3 (.negSucc 199))) [[5],[1],[0,1,2],[0,1,2,3],[0,1,2],[0,1,2],[0,1,2,3,4,5,6,7],[0,1,2,3],[0,1,2,3,4,5,6,7],[0,1],[0,1],[0,1],[0,1]]) (Jr (Jg trB))=true:=by kernel_rfl
theorem Jx3:(ev F C 300).Ss (Jd q13) (stB (.int (.var 3 (.negSucc 199))) [[5],[2],[0,1,2],[0,1,2,3],[0,1,2],[0,1,2],[0,1,2,3,4,5,6,7],[0,1,2,3],[0,1,2,3,4,5,6,7],[0,1],[0,1],[0,1],[0,1]]) (Jr (Jg trB))=true:=by kernel_rfl
theorem Jys:(ev F C 300).Ss (Jd q13) (stB (.int (.var 3 (.negSucc 199))) [[5],[3],[0,1,2],[0,1,2,3],[0,1,2],[0,1,2],[0,1,2,3,4,5,6,7],[0,1,2,3],[0,1,2,3,4,5,6,7],[0,1],[0,1],[0,1],[0,1]]) (Jr (Jg trB))=true:=by kernel_rfl
theorem JEP:(ev F C 300).Ss (Jd q13) (stB (.int (.var 3 (.negSucc 199))) [[5],[4],[0,1,2],[0,1,2,3],[0,1,2],[0,1,2],[0,1,2,3,4,5,6,7],[0,1,2,3],[0,1,2,3,4,5,6,7],[0,1],[0,1],[0,1],[0,1]]) (Jr (Jg trB))=true:=by kernel_rfl
def dmB (s h:Nat)(w:List Nat):JP:=[[s],[h],[0,1,2],[0,1,2,3],w,[0,1,2],[0,1,2,3,4,5,6,7],[0,1,2,3],[0,1,2,3,4,5,6,7],[0,1],[0,1],[0,1],[0,1]]
theorem JvV:∀ s h:Nat,s<6→h<5→s≠1→(ev F C 300).Ss (Jd q13) (stB (.int (.var 3 (.negSucc 199))) (dmB s h [0,1,2])) (Jr (Jg trB))=true
 | 0,0,_,_,_=>Jza
 | 0,1,_,_,_=>Jwy
 | 0,2,_,_,_=>JB8
 | 0,3,_,_,_=>JBZ
 | 0,4,_,_,_=>JyN
 | 1,_,_,_,ne=>absurd rfl ne
 | 2,0,_,_,_=>JwL
 | 2,1,_,_,_=>JBw
 | 2,2,_,_,_=>JFj
 | 2,3,_,_,_=>JEh
 | 2,4,_,_,_=>JCi
 | 3,0,_,_,_=>Jxy
 | 3,1,_,_,_=>Jxz
 | 3,2,_,_,_=>Jyj
 | 3,3,_,_,_=>JxU
 | 3,4,_,_,_=>JAd
 | 4,0,_,_,_=>JET
 | 4,1,_,_,_=>Jwx
 | 4,2,_,_,_=>JyF
 | 4,3,_,_,_=>JDC
 | 4,4,_,_,_=>JEi
 | 5,0,_,_,_=>Jya
 | 5,1,_,_,_=>JCW
 | 5,2,_,_,_=>Jx3
 | 5,3,_,_,_=>Jys
 | 5,4,_,_,_=>JEP
 | _+6,_,hs,_,_=>absurd hs (by omega)
 | _,_+5,_,hh,_=>absurd hh (by omega)
theorem JpO:∀ h v:Nat,h<5→v<3→(ev F C 300).Ss (Jd q13) (stB (.int (.var 3 (.negSucc 199))) (dmB 1 h [v])) (Jr (Jg trB))=true
 | 0,0,_,_=>Jrw
 | 0,1,_,_=>JqE
 | 0,2,_,_=>Jrh
 | 1,0,_,_=>JrB
 | 1,1,_,_=>Jq5
 | 1,2,_,_=>Jp7
 | 2,0,_,_=>Jp9
 | 2,1,_,_=>JpD
 | 2,2,_,_=>Jqe
 | 3,0,_,_=>Jp5
 | 3,1,_,_=>Jrn
 | 3,2,_,_=>Jqm
 | 4,0,_,_=>Jpz
 | 4,1,_,_=>Jp0
 | 4,2,_,_=>JpT
 | _+5,_,hs,_=>absurd hs (by omega)
 | _,_+3,_,hh=>absurd hh (by omega)
theorem JuH:∀ j:Nat,j<13→(ev F C 300).Ss (Jd q13) (stA (I j)) (Jr (Jg Ja0))=true
 | 0,_=>kA0
 | 1,_=>kA1
 | 2,_=>kA2
 | 3,_=>kA3
 | 4,_=>kA4
 | 5,_=>kA5
 | 6,_=>kA6
 | 7,_=>kA7
 | 8,_=>kA8
 | 9,_=>kA9
 | 10,_=>JKx
 | 11,_=>JHg
 | 12,_=>JJs
 | _+13,hj=>absurd hj (by omega)
theorem JlR {ν:Vl}{ad:List Addr}{h:Heap}:∀ (n:Nat) {d:D}{v:Value},Jsj n d=true→Je ν ad h d v→∃ (i:Int) (t:Tok),v=.int i t
 | 0,_,_,e,_=>by cases e
 | n+1,d,v,e,x=>by
  have e:JlG (Jsj n) d=true:=e
  cases d with
  | int i=>obtain⟨t,rfl⟩:=x; exact⟨_,t,rfl⟩
  | tab j l =>
   obtain⟨d,h1,h2⟩:=JbA.mp x;exact JlR n (Jn e _ (JaD h1)) h2
  | _=>cases e
theorem Jgq:∀ {l r:Loc},Jfz l r=true→l=r
 | [],[],_=>rfl
 | (x,a)::l,(y,b)::r,h=>by
  obtain⟨e,h⟩:=bmT (show (match Nat.beq x y with
   | true=>(match Jap a b with | true=>Jfz l r | false=>false)
   | false=>false)=true from h)
  obtain⟨e2,h⟩:=bmT h;rw[nbq e,JaZ e2,Jgq h]
 | [],_::_,h=>ff h
 | _::_,[],h=>ff h
theorem Jc6:∀ {l r:List (D×D)},JeA l r=true→l=r
 | [],[],_=>rfl
 | (x,a)::l,(y,b)::r,h=>by
  obtain⟨e,h⟩:=bmT (show (match Jap x y with
   | true=>(match Jap a b with | true=>JeA l r | false=>false)
   | false=>false)=true from h)
  obtain⟨e2,h⟩:=bmT h;rw[JaZ e,JaZ e2,Jc6 h]
 | [],_::_,h=>ff h
 | _::_,[],h=>ff h
theorem Jg5:∀ {l r:List (Nat×D×D)},Jim l r=true→l=r
 | [],[],_=>rfl
 | (i,x,a)::l,(j,y,b)::r,h=>by
  obtain⟨e0,h⟩:=bmT (show (match Nat.beq i j with
   | true=>(match Jap x y with
    | true=>(match Jap a b with | true=>Jim l r | false=>false)
    | false=>false)
   | false=>false)=true from h)
  obtain⟨e,h⟩:=bmT h;obtain⟨e2,h⟩:=bmT h;rw[nbq e0,JaZ e,JaZ e2,Jg5 h]
 | [],_::_,h=>ff h
 | _::_,[],h=>ff h
theorem JjO {a b:Nat}(h:Nat.beq a b=true):a=b:=nbq h
theorem Ji8 {a b:Jo}(h:JoY a b=true):a=b:=by
 cases a with
 | inst c d =>
  cases b with
  | inst c' d'=>obtain⟨h1,h2⟩:=Ja.mp h; rw[nbq h1,nbq h2]
  | _=>exact ff h
 | ns c l =>
  cases b with
  | ns c' r=>obtain⟨h1,h2⟩:=Ja.mp h; rw[nbq h1,Jgq h2]
  | _=>exact ff h
 | list t l =>
  cases b with
  | list u r=>obtain⟨h1,h2⟩:=Ja.mp h; rw[nbq h1,Jc9 h2]
  | _=>exact ff h
 | dict k l =>
  cases b with
  | dict k' r=>obtain⟨h1,h2⟩:=Ja.mp h; rw[nbq h1,Jc6 h2]
  | _=>exact ff h
 | sdict l =>
  cases b with
  | sdict r=>exact congrArg _ (Jc6 h)
  | _=>exact ff h
 | idict l =>
  cases b with
  | idict r=>exact congrArg _ (Jc6 h)
  | _=>exact ff h
 | cdict l =>
  cases b with
  | cdict r=>exact congrArg _ (Jg5 h)
  | _=>exact ff h
def JhI:Loc→List Nat
 | []=>[]
 | (_,b)::r=>match b with
  | .int (.var t _)=>t::JhI r
  | _=>JhI r
def P6:Pm:=⟨fun t=>Nat.beq t 6,fun _=>false,72,true⟩
def Jej:Loc→Bool
 | []=>true
 | (_,b)::r=>Jh (match b with | .int (.var _ _)=>true | b=>JdH P6 b) (Jej r)
theorem JlQ {ν:Vl}{ad:List Addr}{h:Heap}:∀ {l r:Loc}{es:List DictEntry},Jf0 l r=true→Jej r=true→JaU ν ad h l es→∃ m:List (Nat×Int),m.map (·.1)=JhI r∧∀ ν',JaM P6 ν ν'→(∀ p∈m,ν'.iv p.1=p.2)→JaU ν' (ad.take 72) h r es
 | [],[],es,_,_,x=>⟨[],rfl,fun ν' _ _=>x⟩
 | (x,a)::l,(y,b)::r,es,hg,hf,⟨e,es',nm,t,h1,h2,h3,h4,h5⟩=>by
  obtain⟨g1,g2⟩:=Ja.mp hg;obtain⟨g2,g3⟩:=Ja.mp g2;obtain⟨f1,f2⟩:=Ja.mp hf;obtain⟨m,m1,m2⟩:=JlQ g3 f2 h5;have g1:=JjO g1;subst g1;have gen:Jap a b=true→JdH P6 b=true→JhI ((x,b)::r)=JhI r→∃ m:List (Nat×Int),m.map (·.1)=JhI ((x,b)::r)∧∀ ν',JaM P6 ν ν'→(∀ p∈m,ν'.iv p.1=p.2)→JaU ν' (ad.take 72) h ((x,b)::r) es:=fun g2 f1 hl=>by
   have e1:=JaZ g2;subst e1;exact⟨m,by rw[hl]; exact m1,fun ν' G hm=>⟨e,es',nm,t,h1,h2,h3,h4.swap G f1,m2 ν' G hm⟩⟩
  cases b with
  | int b =>
   cases b with
   | var u o =>
    obtain⟨i,tk,hv⟩:=JlR 4 g2 h4;refine⟨(u,i - o)::m,by rw[List.map_cons,m1]; rfl,fun ν' G hm=>⟨e,es',nm,t,h1,h2,h3,⟨tk,?_⟩,m2 ν' G fun p hp=>hm p (.tail _ hp)⟩⟩;have this:ν'.iv u=i - o:=hm _ (.head _);rw[hv];show Value.int i tk=.int (ν'.iv u+o) tk;rw[this,Int.sub_add_cancel]
   | _=>exact gen g2 f1 rfl
  | _=>exact gen g2 f1 rfl
 | [],_::_,_,h,_,_=>ff h
 | _::_,[],_,h,_,_=>ff h
def Jiq:Tr→Nat→Bool
 | .nil,n=>Nat.beq n 0
 | .node _ l r,n=>Jh (Nat.ble 1 n) (Jh (Jiq l (n / 2)) (Jiq r ((n - 1) / 2)))
theorem JaT:∀ {t:Tr}{n:Nat},Jiq t n=true→JD t n
 | .nil,n,h=>JjO h
 | .node _ l r,n,h=>by
  obtain⟨h1,h2⟩:=Ja.mp h;obtain⟨h2,h3⟩:=Ja.mp h2;exact⟨Nat.ble_eq.mp h1,JaT h2,JaT h3⟩
structure Jma (tr:Tr):Prop where
 dense:JD tr 72
 ord:∀ i∈Jms,∃ o,tr.get i=some o∧Jmh P6 o=true
 s12:tr.get 12=some (.list 1 [])
 s13:tr.get 13=some (.list 2 [])
 s31:tr.get 31=some (.list 5 [])
 s40:tr.get 40=some (.list 5 [])
 s43:tr.get 43=some (.idict [])
 s44:∃ k l,tr.get 44=some (.ns k l)∧Jej l=true∧JhI l=[20,21,22,23]
 link:∀ i k d,tr.get i=some (.inst k d)→∃ l,tr.get d=some (.ns k l)
def JI5 (tr:Tr)(i:Nat):Bool:=match tr.get i with | some o=>Jmh P6 o | none=>false
def JrW (tr:Tr)(i:Nat):Bool:=match tr.get i with
 | some (.inst k d)=>match tr.get d with
  | some (.ns k' _)=>Nat.beq k k'
  | _=>false
 | _=>true
theorem Jma.of {tr:Tr}(h1:Jiq tr 72=true)(h2:Jw (JI5 tr) Jms=true)(s12:tr.get 12=some (.list 1 []))(s13:tr.get 13=some (.list 2 []))(s31:tr.get 31=some (.list 5 []))(s40:tr.get 40=some (.list 5 []))(s43:tr.get 43=some (.idict []))
  (s44:∃ k l,tr.get 44=some (.ns k l)∧Jej l=true∧JhI l=[20,21,22,23]) (h3:Jw (JrW tr) (List.range 72)=true):Jma tr where
 dense:=JaT h1
 ord:=fun i hi=>by
  have:=Jn h2 i hi;obtain⟨o,e,this⟩:=ooT this;exact⟨o,e,this⟩
 s12:=s12
 s13:=s13
 s31:=s31
 s40:=s40
 s43:=s43
 s44:=s44
 link:=fun i k d e=>by
  have hi:i<72:=((JaT h1).some_iff i).mp (by rw[e]; rfl);have:=Jn h3 i (List.mem_range.mpr hi);unfold JrW at this;rw[e] at this;dsimp only at this
  cases q:tr.get d with
  | none=>rw[q] at this; exact ff this
  | some o =>
   rw[q] at this
   cases o with
   | ns k' l=>rw[JjO this]; exact⟨l,rfl⟩
   | _=>exact ff this
theorem JoZ:Jma Ja0:=.of (by kernel_rfl) (by kernel_rfl) (by kernel_rfl) (by kernel_rfl) (by kernel_rfl) (by kernel_rfl) (by kernel_rfl) ⟨_,_,rfl,by kernel_rfl,by kernel_rfl⟩ (by kernel_rfl)
theorem Jz9:Jma trB:=.of (by kernel_rfl) (by kernel_rfl) (by kernel_rfl) (by kernel_rfl) (by kernel_rfl) (by kernel_rfl) (by kernel_rfl) ⟨_,_,rfl,by kernel_rfl,by kernel_rfl⟩ (by kernel_rfl)
theorem JkC {α:Type}{l:List α}{n:Nat}(h:Jcm l n=true):l.length≤n:=JbF h
theorem JfG {t:Nat}{o:Option Jo}{l:List D}(h:Ji3 t o=some l):∃ u,o=some (.list u l)∧l.length≤60∧(u=t∨(u=0∧l≠[])):=by
 obtain⟨u,l',e0,h,_⟩:=lgO h;obtain⟨hs,h⟩:=bmO h;have len:=JkC hs;rcases bm h with ⟨e,h⟩ | ⟨_,h⟩
 · obtain rfl:=Jp h; exact⟨_,e0,len,.inl (JjO e)⟩
 · cases u with
   | succ _=>exact fo h
   | zero =>
    cases l' with
    | nil=>exact fo h
    | cons _ _=>obtain rfl:=Jp h; exact⟨_,e0,len,.inr ⟨rfl,List.cons_ne_nil _ _⟩⟩
theorem Jvb {tr:Tr}{st:St}{i:Nat}(h:Js6 tr st i=true):∃ o,st.objs.get i=some o∧tr.get i=some o:=by
 refine Jf fun n1G=>?_;obtain⟨a,e,h⟩:=ooT h;obtain⟨b,e2,h⟩:=ooT h;have:=Ji8 h;subst this;exact n1G ⟨a,e,e2⟩
theorem Jqg {i:Nat}(h:i<72):i∈Jms∨i=12∨i=13∨i=31∨i=40∨i=43∨i=44:=by
 have:∀ i:Fin 72,i.val∈Jms∨i.val=12∨i.val=13∨i.val=31∨i.val=40∨i.val=43∨i.val=44:=by decide +kernel
 exact this ⟨i,h⟩
noncomputable def Jf1 (ν:Vl)(B:Int):Prop:=ν.iv 1≤B∧ν.iv 2≤B∧ν.iv 4≤B∧ν.iv 5≤B
theorem Jmg {l:Loc}(h:Jnu l=true):∀ i d,lkp JaE i=some d→lkp l i=some d:=by
 obtain⟨h1,h2⟩:=Ja.mp h;obtain⟨h2,h3⟩:=Ja.mp h2;have one:∀ {i j:Nat},Jh0 j (lkp l i)=true→lkp l i=some (.obj j):=by
  intro i j h
  cases e:lkp l i with
  | none=>rw[e] at h; exact ff h
  | some d =>
   rw[e] at h
   cases d with
   | obj k=>rw[JjO (show Nat.beq j k=true from h)]
   | _=>exact ff h
 intro i d e;rw[JJ] at e;split at e
 · rename_i q; subst q; obtain rfl:=Jp e; exact one h1
 · rw[JJ] at e;split at e
   · rename_i q; subst q; obtain rfl:=Jp e; exact one h2
   · rw[JJ] at e;split at e
     · rename_i q; subst q; obtain rfl:=Jp e; exact one h3
     · cases e
theorem Jmq {m:List (Nat×Int)}(nd:(m.map (·.1)).Nodup){p:Nat×Int}(hp:p∈m):m.lookup p.1=some p.2:=by
 induction m with
 | nil=>cases hp
 | cons x r ih =>
  rw[List.map_cons,List.nodup_cons] at nd;rw[List.lookup_cons];refine Jf fun n1G=>?_
  cases hp with
  | head =>
   refine n1G ?_;clear n1G;rw[beq_self_eq_true]
  | tail _ hm =>
   have:(p.1==x.1)=false:=beq_eq_false_iff_ne.mpr fun e=>nd.1 (e ▸ List.mem_map.mpr ⟨p,hm,rfl⟩);refine n1G ?_;clear n1G;rw[this]; exact ih nd.2 hm
theorem Jhq {t:Nat}(ht:t<20):∀ {m:List (Nat×Int)},(∀ x∈m.map (·.1),20≤x)→m.lookup t=none
 | [],_=>rfl
 | x::r,h=>by
  rw[List.lookup_cons];have hx:=h x.1 (.head _);have:(t==x.1)=false:=beq_eq_false_iff_ne.mpr (by omega);rw[this];exact Jhq ht fun y hy=>h y (.tail _ hy)
theorem Jq0 {h:Heap}{a b:List PyData}{vs ws:List Value}(x:IsP.go h a vs)(y:IsP.go h b ws):IsP.go h (a++b) (vs++ws):=Jck x y
inductive Jv2 (c:Jx)(ad:List Addr)(h:Heap)(i u:Nat)(l:List D):Prop
 | mk (a:Addr) (it:Array Value) (v y:List Value) (x:ad[i]?=some a) (p:h.PlainList a it) (q:it.toList=v++y) (r:Jac c.ν h u v) (z:Je.goL c.ν ad h l y) (sz:it.size=v.length+l.length)
section
variable {c:Jx}{ad ad':List Addr}{fs:List JH}{st:St}{h:Heap}
theorem Jfr (R:Jk c ad fs st h){i u:Nat}{l:List D}(o:st.objs.get i=some (.list u l)):Jv2 c ad h i u l:=by
 obtain⟨a,x,⟨it,v,y,p,q,r,z⟩,_⟩:=R.objs i _ o;exact⟨a,it,v,y,x,p,q,r,z,by rw[← Array.length_toList,q,List.length_append,Jm z]⟩
theorem Jda {ν':Vl}{t:Nat}(t0:t≠0){a:Addr}{it:Array Value}(p:h.PlainList a it)(e:(it.size:Int)=ν'.iv t)(le:it.size≤100000)(pre:t=5∨t=6→IsP.go h (ν'.pre t) it.toList):JL c.prog c.w ν' c.clsA ad' h a (.list t []):=by
 refine⟨it,it.toList,[],p,(List.append_nil _).symm,?_,rfl⟩;unfold Jac;rw[if_neg t0];exact⟨by rw[Array.length_toList]; exact e,by rw[Array.length_toList]; exact le,pre⟩
theorem JlP {t u:Nat}(t0:t≠0)(h0:0≤c.ν.iv t){it:Array Value}{v:List Value}{l:List D}(r:Jac c.ν h u v)(sz:it.size=v.length+l.length)(w:u=t∨(u=0∧l≠[]))(n:l.length≤60):(it.size:Int)≤c.ν.iv t+60∧(c.ν.iv t≤it.size∨1≤(it.size:Int)):=by
 unfold Jac at r;rcases w with rfl | ⟨rfl,ne⟩
 · rw[if_neg t0] at r;have:=r.1;clear r;omega
 · rw[if_pos rfl] at r;subst r;have:0<l.length:=List.length_pos_iff.mpr ne;rw[List.length_nil] at sz;omega
theorem JlL {u:Nat}{l:List D}(ok:okT u=true)(d:Jw (Jce 8) l=true){it:Array Value}{v y:List Value}(q:it.toList=v++y)(r:Jac c.ν h u v)(z:Je.goL c.ν ad h l y)(sz:it.size=v.length+l.length):((it.size:Nat):Int)=(if u=0 then 0 else c.ν.iv 5)+(l.length:Int)∧IsP.go h ((if u=0 then [] else c.ν.pre 5)++D.dat.go c.ν l) it.toList:=by
 obtain⟨b1,_,_⟩:=Je.isPs (Jn d) z;unfold Jac at r;rw[q];by_cases t0:u=0
 · rw[if_pos t0] at r;subst r;rw[if_pos t0,if_pos t0];exact⟨by rw[sz,List.length_nil,Nat.zero_add,Int.zero_add],b1⟩
 · have t5:u=5:=by
     unfold okT at ok;rw[Jaw,decide_eq_false t0] at ok;exact nbq ok
   rw[if_neg t0] at r;rw[if_neg t0,if_neg t0];have r3:=r.2.2 (.inl t5);rw[t5] at r3;exact⟨by rw[sz,← t5,← r.1]; rfl,Jck r3 b1⟩
inductive JrP:Option Jo→Option Jo→Prop
 | mk (u:Nat) (l:List D) (ok:okT u=true) (n:l.length≤60) (d:Jw (Jce 8) l=true):JrP (some (.list u l)) (some (.list u l))
theorem JoK {a b:Option Jo}(h:Jk4 a b=true):JrP a b:=by
 obtain⟨t,l,rfl,h,_⟩:=lgT h;obtain⟨u,r,rfl,h,_⟩:=lgT h;obtain⟨wa,wb⟩:=Ja.mp h;obtain⟨wc,wd⟩:=Ja.mp wa;obtain⟨we,wf⟩:=Ja.mp wb;obtain⟨wg,wh⟩:=Ja.mp wf;obtain rfl:=nbq wc;obtain rfl:=Jc9 wg;exact⟨t,l,wd,JbF we,wh⟩
def JoE (st:St)(i:Nat):Prop:=∃ o,st.objs.get i=some o∧JdM o=false
theorem Jln {N:Nat}:∀ {l:List (D×D)}{kvs:List (Int×Value)},JaW c.ν ad h l kvs→Jw (fun p=>JBu N p.1) l=true→∀ p∈kvs,p.1<c.ν.iv 1+(N:Int)
 | [],_,x,_,p,hp=>by have x:_=[]:=x; subst x; cases hp
 | (kk',dd)::l,_,⟨e,v,r,x1,x2,x3,x4⟩,z,p,hp=>by
  obtain⟨z1,z2⟩:=Jad z;subst x1 x2
  cases hp with
  | head =>
   cases e with
   | var t o =>
    match t with
    | 1 =>
     cases o with
     | ofNat k=>exact Int.add_lt_add_left (Int.ofNat_lt.mpr (Nat.blt_eq.mp z1)) _
     | negSucc _=>exact ff z1
    | 0=>exact ff z1
    | _+2=>exact ff z1
   | _=>exact ff z1
  | tail _ hm=>exact Jln x4 z2 p hm
inductive C43 (c:Jx)(ad:List Addr)(h:Heap)(st:St)(N:Nat):Prop
 | mk (n:Nat) (le:(n:Int)≤c.ν.iv 4+60) (st43:JoE st 43) (f:∀ a,ad[43]?=some a→∀ ν':Vl,ν'.iv 1=N→ν'.iv 4=n→JL c.prog c.w ν' c.clsA (ad.take 72) h a (.idict []))
theorem Jut (R:Jk c ad fs st h){u12:Nat}{l12:List D}(o12:st.objs.get 12=some (.list u12 l12)){v12:List Value}(r12:Jac c.ν h u12 v12)(t2:JfO l12.length (st.objs.get 12) (st.objs.get 43)=true):C43 c ad h st (v12.length+l12.length):=by
 have i4:=(c.small 4 (by decide)).1
 cases e43:st.objs.get 43 with
 | none=>rw[e43] at t2; exact ff t2
 | some o =>
  refine Jf fun n1G=>?_;rw[e43] at t2;obtain⟨a,x43,ob43,low43⟩:=R.objs 43 _ e43
  cases o with
  | idict l =>
   obtain⟨k1',k2'⟩:=Ja.mp t2;obtain⟨k2',k3'⟩:=Ja.mp k2';obtain⟨k0,kvs,d1,d2,d3,d4⟩:=ob43;have nl:=Jc7 d3;have n60:=JbF k2';have u1:(v12.length:Int)=c.ν.iv 1:=by
    rw[o12] at k1';obtain rfl:=nbq (show Nat.beq u12 1=true from k1');unfold Jac at r12;rw[if_neg (by decide)] at r12;exact r12.1
   have kl:(k0.length:Int)≤c.ν.iv 4:=by
    cases k0 with
    | nil=>exact i4
    | cons p r=>exact (d2 p (.head _)).2
   refine n1G ?_;clear n1G;refine⟨(k0++kvs).length,by rw[List.length_append]; omega,⟨_,e43,rfl⟩,fun a' ha' ν' h1 h4=>?_⟩;obtain rfl:=sjt x43 ha';refine⟨k0++kvs,[],by rw[List.append_nil]; exact d1,fun p hp=>?_,rfl,fun _ hp=>nomatch hp⟩;rw[h1,h4];refine⟨?_,Int.le_refl _⟩;rcases List.mem_append.mp hp with hp | hp
   · have:=(d2 p hp).1; omega
   · have:=Jln d3 k3' p hp; omega
  | dict k l =>
   obtain rfl:=nbq t2;refine n1G ?_;clear n1G;refine⟨0,by omega,⟨_,e43,rfl⟩,fun a' ha' ν' h1 h4=>?_⟩;obtain rfl:=sjt x43 ha';exact⟨[],[],And.right ob43,(fun p hp=>nomatch hp),rfl,(fun p hp=>nomatch hp)⟩
  | _=>exact ff t2
inductive C44 (c:Jx)(ad:List Addr)(h:Heap)(st:St)(ks:Nat)(ls:Loc):Prop
 | mk (m:List (Nat×Int)) (mk:m.map (·.1)=JhI ls) (st44:JoE st 44) (f:∀ a,ad[44]?=some a→∀ ν':Vl,JaM P6 c.ν ν'→(∀ p∈m,ν'.iv p.1=p.2)→JL c.prog c.w ν' c.clsA (ad.take 72) h a (.ns ks ls))
theorem Jhx {P:Nat→Prop}:∀ {l r:Loc},Jf0 l r=true→(∀ p∈l,P p.1)→∀ p∈r,P p.1
 | [],[],_,_,p,hp=>nomatch hp
 | [],_::_,z,_,_,_=>ff z
 | _::_,[],z,_,_,_=>ff z
 | x::l,b::r,z,y,p,hp=>by
  obtain⟨z1,z2⟩:=Ja.mp z;obtain⟨_,z2⟩:=Ja.mp z2
  cases hp with
  | head=>have:=y x (.head _); rw[nbq z1] at this; exact this
  | tail _ hm=>exact Jhx z2 (fun q hq=>y q (.tail _ hq)) p hm
theorem Jsm (R:Jk c ad fs st h){tr:Tr}{ks:Nat}{ls:Loc}(g44:tr.get 44=some (.ns ks ls))(f44:Jej ls=true)(t3:JkW tr (st.objs.get 44)=true):C44 c ad h st ks ls:=by
 refine Jf fun n1G=>?_
 cases e44:st.objs.get 44 with
 | none=>rw[e44] at t3; exact ff t3
 | some o =>
  rw[e44] at t3
  cases o with
  | ns k l =>
   have t3:(match tr.get 44 with
    | some (.ns k' r)=>Jh (Nat.beq k k') (Jf0 l r)
    | _=>false)=true:=t3
   rw[g44] at t3;obtain⟨k1',k2'⟩:=Ja.mp t3;obtain rfl:=nbq k1';obtain⟨a,x44,⟨o,es,ep,d1,d2,d3,d4⟩,low44⟩:=R.objs 44 _ e44;obtain⟨m,m1,m2⟩:=JlQ k2' f44 d3;refine n1G ?_;clear n1G;refine⟨m,m1,⟨_,e44,rfl⟩,fun a' ha' ν' G hm=>?_⟩;obtain rfl:=sjt x44 ha';exact⟨o,es,ep,d1,d2,m2 ν' G hm,Jhx (P:=fun x=>∃ cl,Js C k=some cl∧JbV cl.att x=true) k2' d4⟩
  | _=>exact ff t3
end
def ivB (a b n d:Nat)(k:Int)(m:List (Nat×Int))(iv:Nat→Int)(t:Nat):Int:=if t=1 then a else if t=2 then b else if t=3 then k else if t=4 then n else if t=5 then d else match m.lookup t with | some x=>x | none=>iv t
theorem Jrk {a b n d:Nat}{k:Int}{m:List (Nat×Int)}{iv:Nat→Int}(z0:0≤iv 0∧iv 0≤100000)(m0:m.lookup 0=none)(ha:a≤100000)(hb:b≤100000)(hn:n≤100000)(hd:d≤100000)(hk:0≤k∧k≤100000):∀ t,t<6→0≤ivB a b n d k m iv t∧ivB a b n d k m iv t≤100000
 | 0,_=>by show 0≤(match m.lookup 0 with | some x=>x | none=>iv 0)∧(match m.lookup 0 with | some x=>x | none=>iv 0)≤100000; rw[m0]; exact z0
 | 1,_=>⟨Int.natCast_nonneg _,Int.ofNat_le.mpr ha⟩
 | 2,_=>⟨Int.natCast_nonneg _,Int.ofNat_le.mpr hb⟩
 | 3,_=>hk
 | 4,_=>⟨Int.natCast_nonneg _,Int.ofNat_le.mpr hn⟩
 | 5,_=>⟨Int.natCast_nonneg _,Int.ofNat_le.mpr hd⟩
 | _+6,h=>absurd h (Nat.not_lt.mpr (Nat.le_add_left _ _))
theorem JEV {a b n d:Nat}{k:Int}{m:List (Nat×Int)}{iv:Nat→Int}(mk:m.map (·.1)=[20,21,22,23])(p:Nat×Int)(hp:p∈m):ivB a b n d k m iv p.1=p.2:=by
 have h20:20≤p.1:=by
  have:∀ x∈m.map (·.1),20≤x:=by rw[mk]; decide
  exact this _ (List.mem_map.mpr ⟨p,hp,rfl⟩)
 unfold ivB;rw[if_neg (by omega),if_neg (by omega),if_neg (by omega),if_neg (by omega),if_neg (by omega),Jmq (by rw[mk]; decide) hp]
theorem Jlj {c:Jx}{tr:Tr}(TR:Jma tr){ad:List Addr}{f:JH}{st:St}{h:Heap}(R:Jk c ad [f] st h)(hb:Jg tr st=true)(h72:72≤st.n)(h0:c.ad₀.length≤72){B:Int}(bd:Jf1 c.ν B)(hB:B≤90000)
  {kk:Nat}{dg':Nat→Nat} (hk:(c.ν.pre 6)[kk]?=some (.tuple ((List.range 10).map fun j=>.int (dg' j)))) (hr:∀ j r,Js JW j=some r→dg' j<r) (h10:∀ j,10≤j→dg' j=c.ν.dg j) (hdom:∀ j l,Js Jco j=some l→dg' j∈l) (hkk:kk≤9000) :
  ∃ c',JE c c'∧Jk c' (ad.take 72) [f] ⟨tr,72,JaE,[],Jco⟩ h∧c'.ν.pre 6=c.ν.pre 6∧c'.ν.iv 6=c.ν.iv 6∧c'.ν.dg=dg'∧c'.ν.iv 3=200+(kk:Int)∧c'.ν.fz=c.ν.fz∧Jf1 c'.ν (B+60):=by
 refine Jf fun n1G=>?_
 have hb:(match Ji3 1 (st.objs.get 12) with
  | some l=>match Ji3 2 (st.objs.get 13) with
   | some _=>Jh (Jk4 (st.objs.get 31) (st.objs.get 40)) (Jh (JfO l.length (st.objs.get 12) (st.objs.get 43)) (Jh (JkW tr (st.objs.get 44)) (Jh (Jnu st.loc) (Jw (Js6 tr st) Jms))))
   | none=>false
  | none=>false)=true:=hb
 obtain⟨l12,g12,hb⟩:=olT hb;obtain⟨l13,g13,hb⟩:=olT hb;obtain⟨t1,t2⟩:=Ja.mp hb;obtain⟨t2,t3⟩:=Ja.mp t2;obtain⟨t3,t4⟩:=Ja.mp t3;obtain⟨t4,t5⟩:=Ja.mp t4;obtain⟨u12,o12,n12,w12⟩:=JfG g12;obtain⟨u13,o13,n13,w13⟩:=JfG g13;obtain⟨a12,Jrv,v12,y12,x12,p12,q12,r12,z12,sz12⟩:=Jfr R o12;obtain⟨a13,it13,v13,y13,x13,p13,q13,r13,z13,sz13⟩:=Jfr R o13;have c43:=Jut R o12 r12 t2;rw[← sz12] at c43;obtain⟨n43,le43,st43,f43⟩:=c43;generalize e31:st.objs.get 31=s31 at t1;generalize e40:st.objs.get 40=s40 at t1;obtain⟨u31,l31,okt,s31,d31⟩:=JoK t1;obtain⟨a31,it31,v31,y31,x31,p31,q31,r31,z31,sz31⟩:=Jfr R e31;obtain⟨a40,it40,v40,y40,x40,p40,q40,r40,z40,sz40⟩:=Jfr R e40;obtain⟨m31,w31⟩:=JlL okt d31 q31 r31 z31 sz31;obtain⟨m40,w40⟩:=JlL okt d31 q40 r40 z40 sz40;obtain⟨ks,ls,g44,fs44,ll44⟩:=TR.s44;obtain⟨m,mk,st44,f44⟩:=Jsm R g44 fs44 t3;rw[ll44] at mk;have mno:∀ t,t<20→m.lookup t=none:=fun t ht=>Jhq ht (by rw[mk]; decide);obtain⟨le12,_⟩:=JlP (by decide) (c.small 1 (by decide)).1 r12 sz12 w12 n12;obtain⟨le13,ge13⟩:=JlP (by decide) (c.small 2 (by decide)).1 r13 sz13 w13 n13;have ge13:1≤(it13.size:Int):=ge13.elim (Int.le_trans c.pos) id;have i5:=(c.small 5 (by decide)).1;have le31:(it31.size:Int)≤c.ν.iv 5+60:=by
  rw[m31]; split <;> omega
 have e40':it40.size=it31.size:=Int.ofNat.inj (m40.trans m31.symm);obtain⟨bd1,bd2,bd4,bd5⟩:=bd;have b1:Jrv.size≤100000:=by omega
 have b2:it13.size≤100000:=by omega
 have b4:n43≤100000:=by omega
 have b5:it31.size≤100000:=by omega
 let iv':Nat→Int:=ivB Jrv.size it13.size n43 it31.size (200+(kk:Int)) m c.ν.iv;let p5:List PyData:=(if u31=0 then [] else c.ν.pre 5)++D.dat.go c.ν l31;let ν':Vl:=⟨iv',c.ν.sv,dg',fun t=>if t=5 then p5 else c.ν.pre t,c.ν.ov,c.ν.fz⟩;have v6:iv' 6=c.ν.iv 6:=by show (match m.lookup 6 with | some x=>x | none=>c.ν.iv 6)=_; rw[mno 6 (by decide)]
 have G:JaM P6 c.ν ν':=⟨fun t ht=>by have:=JjO ht; subst this; exact v6.symm,fun t ht=>by have:=JjO ht; subst this; rfl,fun t ht=>ff ht,fun _=>⟨rfl,fun j hj=>(h10 j hj).symm⟩⟩;have pok:PyData.canLayAll0 p5=true∧PyData.depthAll p5≤50:=by
  obtain⟨_,b2,b3⟩:=Je.isPs (Jn d31) z31;have hp:PyData.canLayAll0 (if u31=0 then [] else c.ν.pre 5)=true∧PyData.depthAll (if u31=0 then [] else c.ν.pre 5)≤50:=by
   split
   · exact⟨rfl,Nat.zero_le _⟩
   · exact c.preOk
  exact⟨Jb1 hp.1 b2,Jby hp.2 (Nat.le_trans b3 (by decide))⟩
 let c':Jx:=⟨c.prog,c.w,ν',c.clsA,c.h₀,c.ad₀,Jrk (c.small 0 (by decide)) (mno 0 (by decide)) b1 b2 b4 b5 ⟨by omega,by omega⟩,ge13,c.opqOk,c.lowSys,pok,⟨kk,rfl,hk,hr⟩,c.firstOk⟩;have S:JE c c':=⟨rfl,rfl,rfl,rfl,rfl⟩;refine n1G ?_;clear n1G;refine⟨c',S,Jk.swap S (p:=P6) G R TR.dense rfl h72 h0 (fun i o' e=>?_) TR.link ?_ hdom,rfl,v6,rfl,rfl,rfl,Int.le_trans le12 (Int.add_le_add_right bd1 60),Int.le_trans le13 (Int.add_le_add_right bd2 60),Int.le_trans le43 (Int.add_le_add_right bd4 60),Int.le_trans le31 (Int.add_le_add_right bd5 60)⟩
 · have e:tr.get i=some o':=e;have hi:i<72:=(TR.dense.some_iff i).mp (by rw[e]; rfl);rcases Jqg hi with q | rfl | rfl | rfl | rfl | rfl | rfl
   · refine Jf fun n2G=>?_;obtain⟨o,e1,e2⟩:=Jvb (Jn t5 i q);obtain rfl:=sjt e2 e;obtain⟨o2,e3,e4⟩:=TR.ord i q;obtain rfl:=sjt e2 e3;exact n2G (.inl ⟨e1,e4⟩)
   · obtain rfl:=sjt TR.s12 e;refine .inr fun a ha=>⟨⟨_,o12,rfl⟩,?_⟩;obtain rfl:=sjt x12 ha;exact Jda (c:=c) (by decide) p12 rfl b1 fun h=>h.elim (fun h=>nomatch h) fun h=>nomatch h
   · obtain rfl:=sjt TR.s13 e;refine .inr fun a ha=>⟨⟨_,o13,rfl⟩,?_⟩;obtain rfl:=sjt x13 ha;exact Jda (c:=c) (by decide) p13 rfl b2 fun h=>h.elim (fun h=>nomatch h) fun h=>nomatch h
   · obtain rfl:=sjt TR.s31 e;refine .inr fun a ha=>⟨⟨_,e31,rfl⟩,?_⟩;obtain rfl:=sjt x31 ha;exact Jda (c:=c) (by decide) p31 rfl b5 fun _=>w31
   · obtain rfl:=sjt TR.s40 e;refine .inr fun a ha=>⟨⟨_,e40,rfl⟩,?_⟩;obtain rfl:=sjt x40 ha;exact Jda (c:=c) (by decide) p40 (by rw[e40']; rfl) (by rw[e40']; exact b5) fun _=>w40
   · obtain rfl:=sjt TR.s43 e;exact .inr fun a ha=>⟨st43,f43 a ha ν' rfl rfl⟩
   · obtain rfl:=sjt g44 e;exact .inr fun a ha=>⟨st44,f44 a ha ν' G (JEV mk)⟩
 · obtain⟨l,r,er,hl,hrr⟩:=R.frames
   (injection er with zz; subst zz)
   exact⟨JaE,[],rfl,(hl.less (Jmg t4)).swap G (by rfl),rfl⟩
theorem JhQ (P:St→Bool):kN (fun st=>P st=true)=Jr P:=by
 funext fl st
 rw[Bool.eq_iff_iff,Jb4]
 cases fl with
 | next=>exact⟨fun h=>h.2,fun h=>⟨rfl,h⟩⟩
 | ret d=>exact⟨fun h=>(by cases h.1),fun h=>(by cases h)⟩
def Jew (j:Nat):Tr:=if j≤13 then Ja0 else trB
theorem JqR (j:Nat):Jma (Jew j):=by
 unfold Jew; split
 · exact JoZ
 · exact Jz9
structure Jin (N:Nat)(pl:List PyData)(fz:Addr→Option Obj)(j:Nat)(c:Jx)(st:St):Prop where
 st_:st=⟨Jew j,72,JaE,[],Jco⟩
 pre:c.ν.pre 6=pl
 bd:Jf1 c.ν (1000+60*(j:Int))
 at_:j<N→c.ν.iv 3=200+(j:Int)
 goes:∀ i,10≤i→i<13→c.ν.dg i≤1
theorem JnX {dg:Nat→Nat}(h1:∀ j r,Js JW j=some r→dg j<r)(h2:∀ i,10≤i→i<13→dg i≤1):∀ j l,Js Jco j=some l→dg j∈l:=by
 have r:∀ (j r:Nat),Js JW j=some r→Js Jco j=some (List.range r):=by
  intro j r e;have:∀ i:Fin 10,Js Jco i.val=(Js JW i.val).map List.range:=by decide +kernel
  have hj:j<10:=by
   rw[JG] at e;exact (List.getElem?_eq_some_iff.mp e).1
  have:=this ⟨j,hj⟩;simp only at this;rw[this,e]; rfl
 intro j l e;by_cases hj:j<10
 · have ⟨r0,hr⟩:∃ r,Js JW j=some r:=⟨_,by rw[JG]; exact List.getElem?_eq_getElem hj⟩;have q:=r j r0 hr;obtain rfl:=sjt e q;exact List.mem_range.mpr (h1 j r0 hr)
 · have hj3:j<13:=by
     rw[JG] at e;exact (List.getElem?_eq_some_iff.mp e).1
   have z:=h2 j (by omega) hj3;have:∀ i:Fin 3,Js Jco (10+i.val)=some [0,1]:=by decide +kernel
   have q:=this ⟨j - 10,by omega⟩;simp only at q;rw[show 10+(j - 10)=j by omega,e] at q;obtain rfl:=Jp q;have:dg j=0∨dg j=1:=by omega
   rcases this with h | h <;> rw[h] <;> simp
theorem Jjv {ad ad3:List Addr}(h:Pre ad ad3)(hl:ad.length=72):ad3.take 72=ad:=by
 refine List.ext_getElem? fun i=>?_;by_cases q:i<72
 · rw[List.getElem?_take,if_pos q,List.getElem?_eq_getElem (by omega:i<ad.length)];exact h i _ (List.getElem?_eq_getElem (by omega))
 · rw[List.getElem?_take,if_neg q,List.getElem?_eq_none (by omega)]
theorem Jcq (x:Nat)(d:D)(st:St)(k:St→Bool):(ev F C 300).assign (.name x) d st k=k (st.setLoc x d):=by kernel_rfl
theorem JEJ (d:D):(⟨Ja0,72,JaE,[],Jco⟩:St).setLoc 23 d=stA d:=by kernel_rfl
theorem JL1 (d:D)(s h:Nat)(w:List Nat):((((⟨trB,72,JaE,[],Jco⟩:St).only 0 [s]).only 1 [h]).only 4 w).setLoc 23 d=stB d (dmB s h w):=by kernel_rfl
theorem Jnh {c:Jx}{f:JH}{ad:List Addr}{N:Nat}{pl:List PyData}{fz:Addr→Option Obj}(h0:c.ad₀.length≤72)(hl:ad.length=72)(hN:23≤N)(hN2:N≤63){dgs:Nat→Nat→Nat}
  (hp:∀ k,k<N→pl[k]?=some (.tuple ((List.range 10).map fun j=>.int (dgs k j)))) (hr:∀ k,k<N→∀ j r,Js JW j=some r→dgs k j<r) {j:Nat} (hj:j<N) :
  Jk1 c F 300 (.name 23) (Jd q13) f [] ad (Jin N pl fz) (fun j v=>∃ t,v=.int j t) j:=by
 rintro c1 st1 h1 S1 R1 ⟨rfl,i2,i3,i4,i5⟩ v ⟨t,rfl⟩;refine Jf fun n1G=>?_;have tail:∀ (tr:Tr),tr=Jew (j+1)→∀ ad3 st3 h3,Jk c1 ad3 [f] st3 h3→Pre ad ad3→Jg tr st3=true→∃ c3 st4,JE c c3∧Jk c3 ad [f] st4 h3∧Jin N pl fz (j+1) c3 st4:=by
  intro tr htr ad3 st3 h3 R3 P3 hb;refine Jf fun n2G=>?_;subst htr;have kk:∃ k,k<N∧(j+1<N→k=j+1):=by
   refine Jf fun n3G=>?_;by_cases q:j+1<N
   · exact n3G ⟨j+1,q,fun _=>rfl⟩
   · exact n3G ⟨0,by omega,fun h=>absurd h q⟩
  obtain⟨k,k1,k2⟩:=kk;let dg':Nat→Nat:=fun i=>if i<10 then dgs k i else c1.ν.dg i;have e10:((List.range 10).map fun j=>PyData.int (dg' j))=(List.range 10).map fun j=>.int (dgs k j):=by
   apply List.map_congr_left;intro i hi;have:i<10:=List.mem_range.mp hi;simp only[dg',if_pos this]
  have hr':∀ i r,Js JW i=some r→dg' i<r:=fun i r e=>by
   have hi:i<10:=by
    rw[JG] at e;exact (List.getElem?_eq_some_iff.mp e).1
   simp only[dg',if_pos hi];exact hr k k1 i r e
  have n72:72≤st3.n:=by
   rw[← R3.len];refine Jf fun n4G=>?_;have:=List.getElem?_eq_some_iff.mp (P3 71 _ (List.getElem?_eq_getElem (by omega)));obtain⟨z,_⟩:=this;refine n4G ?_;clear n4G;omega
  obtain⟨c',S',R',p6,_,dgq,i3q,fzq,bq⟩:=Jlj (JqR (j+1)) R3 hb n72 (by rw[S1.ad₀]; exact h0) i3 (by omega) (kk:=k) (dg':=dg') (by rw[i2,e10]; exact hp k k1) hr' (fun i hi=>by simp only[dg']; rw[if_neg (by omega)])
   (JnX hr' fun i a b=>by simp only[dg']; rw[if_neg (by omega)]; exact i5 i a b) (by omega)
  rw[Jjv P3 hl] at R';refine n2G ?_;clear n2G;refine⟨c',_,S1.trans S',R',rfl,p6.trans i2,?_,fun hlt=>?_,fun i a b=>?_⟩
  · have:(1000+60*(j:Int))+60=1000+60*(((j+1:Nat):Nat):Int):=by omega
    rw[← this]; exact bq
  · rw[i3q,k2 hlt]
  · rw[dgq]; simp only[dg']; rw[if_neg (by omega)]; exact i5 i a b
 by_cases q13':j<13
 · refine n1G ?_;clear n1G;refine⟨c1,_,I j,fun st=>Jg Ja0 st=true,S1,R1,⟨t,rfl⟩,?_,tail Ja0 (by unfold Jew; rw[if_pos (by assumption)])⟩;rw[JhQ];have e:Jew j=Ja0:=by unfold Jew; rw[if_pos (by exact Nat.le_of_lt ‹_›)]
   rw[e,Jcq,JEJ];exact JuH j q13'
 · by_cases q14:j=13
   · subst q14;refine n1G ?_;clear n1G;refine⟨c1,_,I 13,fun st=>Jg trB st=true,S1,R1,⟨t,rfl⟩,?_,tail trB (by unfold Jew; rw[if_neg (by decide)])⟩;rw[JhQ,show Jew 13=Ja0 from rfl,Jcq,JEJ];exact JK2
   · have e:Jew j=trB:=by unfold Jew; rw[if_neg (by omega)]
     have d:=R1.dom;obtain⟨_,_,_,lt⟩:=c1.askOk;have step:∀ (w:List Nat),c1.ν.dg 4∈w→(ev F C 300).Ss (Jd q13) (stB (.int (.var 3 (.negSucc 199))) (dmB (c1.ν.dg 0) (c1.ν.dg 1) w)) (Jr (Jg trB))=true→False:=fun w hw hk=>by
      have R2:=((R1.only (j:=0) (vs:=[c1.ν.dg 0]) (List.mem_singleton.mpr rfl)).only (j:=1) (vs:=[c1.ν.dg 1]) (List.mem_singleton.mpr rfl)).only (j:=4) (vs:=w) hw;refine n1G ⟨c1,_,.int (.var 3 (.negSucc 199)),fun st=>Jg trB st=true,S1,R2,⟨t,?_⟩,?_,tail trB (by unfold Jew; rw[if_neg (by assumption)])⟩
      · have:IE.val c1.ν (.var 3 (.negSucc 199))=(j:Int):=by
          show c1.ν.iv 3+Int.negSucc 199=(j:Int);rw[i4 hj];omega
        rw[this]
      · rw[JhQ,e,Jcq,JL1];exact hk
     by_cases q1:c1.ν.dg 0=1
     · exact step [c1.ν.dg 4] (List.mem_singleton.mpr rfl) (by rw[q1]; exact JpO _ _ (lt 1 5 rfl) (lt 4 3 rfl))
     · exact step [0,1,2] (R1.dom 4 _ rfl) (JvV _ _ (lt 0 6 rfl) (lt 1 5 rfl) q1)
noncomputable abbrev p00:Pos:=⟨0,0,0,0⟩
noncomputable def noE:Expr:=.Constant .none 0 p00
def JLE:Expr→List Expr
 | .IfExp t a b _=>[t,a,b]
 | .Subscript v i _=>[v,i]
 | .Compare l _ rs _=>l::rs
 | .BinOp l _ r _=>[l,r]
 | .ListComp e gs _ _=>e::gs.flatMap fun g=>[g.target,g.iter]
 | .Slice _ u _ _=>u.toList
 | .Call f as _ _=>f::as
 | _=>[]
def kid (e:Expr)(i:Nat):Expr:=((JLE e)[i]?).getD noE
def JrT:Stmt→List Expr×List Stmt
 | .For t i b _ _=>([t,i],b)
 | .Assign ts v _=>(v::ts,[])
 | .If t b _ _=>([t],b)
 | _=>([],[])
def Jm6 (o:Option Stmt)(i:Nat):Expr:=((o.elim [] fun s=>(JrT s).1)[i]?).getD noE
noncomputable def Jv3 (o:Option Stmt):Pos:=o.elim p00 Stmt.pos
def nmX (e:Expr):Str:=(JcV e).getD "?"
abbrev nmP (e:Expr):Pos:=e.pos
abbrev Jgk (o:Option Stmt):Expr:=Jm6 o 0
abbrev JbJ (o:Option Stmt):Expr:=Jm6 o 1
def Je8 (o:Option Stmt):List Stmt:=o.elim [] fun s=>(JrT s).2
abbrev JmZ (o:Option Stmt):Pos:=Jv3 o
abbrev Jjr (e:Expr):Str:=nmX (kid e 0)
abbrev Jol (e:Expr):Pos:=(kid e 0).pos
abbrev Jkf (e:Expr):Expr:=kid e 1
abbrev JrQ (e:Expr):Pos:=e.pos
abbrev sN (i:Nat):Option Stmt:=Js JaP i
theorem Jsl:sN 13=some (.For (Jgk (sN 13)) (.Call (.Name (Jjr (JbJ (sN 13))) (Jol (JbJ (sN 13)))) [Jkf (JbJ (sN 13))] [] (JrQ (JbJ (sN 13)))) (Je8 (sN 13)) [] (JmZ (sN 13))):=by kernel_rfl
theorem JDn:JdL NT G 40 Jj (Jgk (sN 13))=.name 23:=by kernel_rfl
theorem JEd:(Je8 (sN 13)).map (Jbz NT G 40 Jj)=Jd q13:=by kernel_rfl
theorem Jyi:Jt NT G 40 Jj (Jkf (JbJ (sN 13)))=.bi 0 [.loc 162]:=by kernel_rfl
theorem Jy3:Jj.names.lookup (Jjr (JbJ (sN 13)))=some .globalImplicit∧(Jjr (JbJ (sN 13))==("__debug__":Str))=false∧JO G (Jjr (JbJ (sN 13)))=some (.bi 4)∧JA (Jkf (JbJ (sN 13)))=true:=⟨by kernel_rfl,by kernel_rfl,by kernel_rfl,by kernel_rfl⟩
theorem JFb:sN 9=some (.For (Jgk (sN 9)) (JbJ (sN 9)) (Je8 (sN 9)) [] (JmZ (sN 9))):=by kernel_rfl
theorem JGL:JdL NT G 40 Jj (Jgk (sN 9))=.name 161∧(Je8 (sN 9)).map (Jbz NT G 40 Jj)=Jd q9∧JcD (JbJ (sN 9))=true:=⟨by kernel_rfl,by kernel_rfl,by kernel_rfl⟩
theorem Juu:sN 12=some (.For (Jgk (sN 12)) (JbJ (sN 12)) (Je8 (sN 12)) [] (JmZ (sN 12))):=by kernel_rfl
theorem JBU:JdL NT G 40 Jj (Jgk (sN 12))=.name 127∧(Je8 (sN 12)).map (Jbz NT G 40 Jj)=Jd q12∧JcD (JbJ (sN 12))=true:=⟨by kernel_rfl,by kernel_rfl,by kernel_rfl⟩
theorem JpV (dm:JP)(k:D→St→Bool):(ev F C 300).E (.bi 0 [.loc 162]) ⟨Ja0,72,JaE,[],dm⟩ k=k (.int (.var 6 0)) ⟨Ja0,72,JaE,[],dm⟩:=by kernel_rfl
theorem JmG {c:Jx}{K:Frag}{mg mb:Str→Option Value}(Gl:JcH c K JB mg mb)(H:∀ c',JE c c'→∀ n,All c' F JB n){f:JH}{ad:List Addr}(h0:c.ad₀.length≤72)(hl:ad.length=72){N:Nat}(hN:23≤N)(hN2:N≤63){pl:List PyData}{dgs:Nat→Nat→Nat}
  (hp:∀ k,k<N→pl[k]?=some (.tuple ((List.range 10).map fun j=>.int (dgs k j)))) (hr:∀ k,k<N→∀ j r,Js JW j=some r→dgs k j<r)
  {env:Env}{A:Around}{s:Shared} (hE:JY env f) (hs:f.sc=Jj) (hA:Jz A 300) (R:Jk c ad [f] ⟨Ja0,72,JaE,[],Jco⟩ s.heap) (h6:c.ν.iv 6=(N:Int)) (I0:Jin N pl c.ν.fz 0 c ⟨Jew 0,72,JaE,[],Jco⟩) {Q:Flow→Shared→Prop}
  (k:∀ s',Jfg c f [] ad (Jin N pl c.ν.fz) s N s'→Q .next s') :
  wpAny (model c.prog c.w) A (exec (.For (Jgk (sN 13)) (.Call (.Name (Jjr (JbJ (sN 13))) (Jol (JbJ (sN 13)))) [Jkf (JbJ (sN 13))] [] (JrQ (JbJ (sN 13)))) (Je8 (sN 13)) [] (JmZ (sN 13))) env) Q (fun _ _=>False) s:=by
 obtain⟨g1,g2,g3,g4⟩:=Jy3;have A1:=H c (.refl c) 300;have he:HE c F 300 Jj (.bi 0 [.loc 162]) (Jkf (JbJ (sN 13))):=by rw[← Jyi]; exact A1.E 40 Jj _
 have hh:∀ c',JE c c'→HA c' F 300 Jj (.name 23) (Jgk (sN 13))∧HSs c' F 300 Jj (Jd q13) (Je8 (sN 13)):=fun c' S=>by
  have A2:=H c' S 300;refine⟨?_,?_⟩
  · rw[← JDn]; exact A2.A 40 Jj _
  · rw[← JEd]; exact A2.Ss 40 Jj _
 have hlen:(ev F C 300).E (.bi 0 [.loc 162]) ⟨Ja0,72,JaE,[],Jco⟩ (kD fun d st'=>d=.int (.var 6 0)∧st'=⟨Ja0,72,JaE,[],Jco⟩)=true:=by
  rw[JpV,Ja1]; exact⟨rfl,rfl⟩
 have hv:(IE.var 6 0).val c.ν=(N:Int):=by
  show c.ν.iv 6+0=_;rw[h6,Int.add_zero]
 exact JmA Gl g1 g2 g3 he g4 hh hE hs hA hA R hlen hv (by omega) I0 (fun j hj=>Jnh h0 hl hN hN2 hp hr hj) k
def JrD (i:Nat)(I:List Nat):Bool:=Jaz (Jw (fun x=>Jaz (Nat.beq i x)) I)
theorem JnY {i:Nat}{I:List Nat}(h:JrD i I=true):i∈I:=by
 induction I with
 | nil=>cases h
 | cons x r ih =>
  unfold JrD at h;rw[Jbj] at h
  cases e:Nat.beq i x with
  | true=>rw[JjO e]; exact .head _
  | false =>
   refine .tail _ (ih ?_);unfold JrD;rw[Jbj];have h:(!(@Bool.rec (fun _=>Bool) false (Jw (fun x=>Jaz (Nat.beq i x)) r) (Jaz (Nat.beq i x))))=true:=h;rw[Jbj,e] at h;exact h
def Jx7 (p:Pm)(t t':Tr)(i:Nat):Bool:=match t.get i with
 | some a=>match t'.get i with | some b=>Jh (JoY a b) (Jmh p a) | none=>false
 | none=>false
def chk (p:Pm)(I:List Nat)(t t':Tr):Nat→Bool
 | 0=>true
 | n+1=>Jh (match JrD n I with | true=>true | false=>Jx7 p t t' n) (chk p I t t' n)
set_option tactic.hygienic true in
theorem JhW {p:Pm}{I:List Nat}{t t':Tr}:∀ {n:Nat},chk p I t t' n=true→∀ i,i<n→i ∉ I→∃ o,t.get i=some o∧t'.get i=some o∧Jmh p o=true
 | 0,_,i,h,_=>absurd h (Nat.not_lt_zero _)
 | n+1,h,i,hi,nI=>by
  refine Jf fun n1G=>?_;have h1:=And.left (Ja.mp h); have h2:=And.right (Ja.mp h);by_cases q:i=n
  · subst q;split at h1
    · rename_i e;exact absurd (JnY e) nI
    · unfold Jx7 at h1;split at h1
      · rename_i a ea;split at h1
        · rename_i b eb;have h3:=And.left (Ja.mp h1); have h4:=And.right (Ja.mp h1);have:=Ji8 h3;subst this;exact n1G ⟨a,ea,eb,h4⟩
        · cases h1
      · cases h1
  · exact n1G (JhW h2 i (by omega) nI)
theorem JlS {c c':Jx}(S:JE c c'){p:Pm}(G:JaM p c.ν c'.ν){ad:List Addr}{f:JH}{st st':St}{h:Heap}(R:Jk c ad [f] st h){I:List Nat}(hck:chk p I st.objs st'.objs p.m=true)(hd:JD st'.objs st'.n)(hm:st'.n=p.m)(hn:p.m≤st.n)(h0:c.ad₀.length≤p.m)
  (new:∀ i∈I,∃ o o',st.objs.get i=some o∧JdM o=false∧st'.objs.get i=some o'∧(∀ k d,o'≠.inst k d)∧(∀ k l,o≠.ns k l)∧∀ a,ad[i]?=some a→JL c.prog c.w c.ν c.clsA ad h a o→JL c'.prog c'.w c'.ν c'.clsA (ad.take p.m) h a o')
  (hr:st'.rest=[]) (sub:∀ i d,lkp st'.loc i=some d→lkp st.loc i=some d) (fx:Jw (fun x=>JdH p x.2) st'.loc=true) (hdm:∀ j l,Js st'.dom j=some l→c'.ν.dg j∈l):Jk c' (ad.take p.m) [f] st' h:=by
 have lt:∀ {i o},st'.objs.get i=some o→i<p.m:=fun {i o} e=>by
  have:=(hd.some_iff i).mp (by rw[e]; rfl); omega
 have fr:Ja6 c.ν ad h f st.loc:=by
  refine Jf fun n1G=>?_;obtain⟨l,r,er,x,_⟩:=R.frames;refine n1G ?_;clear n1G
  (injection er with zz; subst zz); exact x
 refine Jk.swap S G R hd hm hn h0 (fun i o' e=>?_) (fun i k d e=>?_) ⟨st'.loc,[],by rw[hr],(fr.less sub).swap G fx,rfl⟩ hdm
 · refine Jf fun n2G=>?_;by_cases q:i∈I
   · refine n2G ?_;clear n2G;refine .inr fun a ha=>?_;refine Jf fun n3G=>?_;obtain⟨o,o2,g1,g2,g3,g4,g5,g6⟩:=new i q;obtain rfl:=sjt e g3;obtain⟨b,hb,x,_⟩:=R.objs i o g1;obtain rfl:=sjt ha hb;exact n3G ⟨⟨o,g1,g2⟩,g6 a ha x⟩
   · obtain⟨o,e1,e2,e3⟩:=JhW hck i (lt e) q;obtain rfl:=sjt e e2;exact n2G (.inl ⟨e1,e3⟩)
 · refine Jf fun n4G=>?_;by_cases q:i∈I
   · obtain⟨o,o2,g1,g2,g3,g4,g5,g6⟩:=new i q;obtain rfl:=sjt e g3;exact absurd rfl (g4 k d)
   · obtain⟨o,e1,e2,e3⟩:=JhW hck i (lt e) q;obtain rfl:=sjt e e2;obtain⟨l,el⟩:=R.link i k d e1;have hdl:d<p.m:=Nat.blt_eq.mp e3;have dI:d ∉ I:=fun m=>by
      refine Jf fun n5G=>?_;obtain⟨o,o2,g1,g2,g3,g4,g5,g6⟩:=new d m;obtain rfl:=sjt el g1;exact n5G (g5 k l rfl)
     obtain⟨o,u1,u2,u3⟩:=JhW hck d hdl dI;obtain rfl:=sjt el u1;exact n4G ⟨l,u2⟩
theorem Jk.lessLoc {c:Jx}{ad:List Addr}{f:JH}{fs:List JH}{st:St}{h:Heap}(R:Jk c ad (f::fs) st h){l':Loc}(sub:∀ i d,lkp l' i=some d→lkp st.loc i=some d):Jk c ad (f::fs) { st with loc:=l' } h:=by
 refine Jf fun n1G=>?_;obtain⟨l,r,er,x,y⟩:=R.frames
 cases er
 exact n1G ⟨R.dense,R.len,R.objs,R.link,R.nodup,⟨l',st.rest,rfl,x.less sub,y⟩,R.low,R.base,R.dom,R.root⟩
set_option tactic.hygienic true in
def bn (b:Bool):Nat:=match b with | true=>1 | false=>0
section
variable {ν ν':Vl}{ad ad':List Addr}{h:Heap}{b1 b2 b3:Bool}
def gA (b:Bool)(l:List (D×D)):List (D×D):=match b with | true=>l | false=>[]
theorem Jjf (b1 b2 b3:Bool):JM b1 b2 b3=gA b1 [(k1,I 8)]++(gA b2 [(k2,I 2)]++gA b3 [(k3,I 2)]):=by cases b1 <;> cases b2 <;> cases b3 <;> rfl
theorem Jve {a b i:Nat}{r:List (D×D)}{xs:List (IT×Addr×Value)}(x:Jaa ν ad h ((.tup [I a,I b],I i)::r) xs):∃ p v xs',xs=(.tup [.int (.ofNat a),.int (.ofNat b)],p,v)::xs'∧(∃ t,v=.int (.ofNat i) t)∧Jaa ν ad h r xs':=by
 refine Jf fun n1G=>?_;obtain⟨x,p,v,xs',e,e2,e3,e4⟩:=x;obtain rfl:=Jp e;exact n1G ⟨p,v,xs',e2,e3,e4⟩
theorem Joc {a b i:Nat}{j:Nat}{r:List (Nat×D×D)}{xs:List (IT×Addr×Value)}{p:Addr}{v:Value}(hj:ν.dg j=1)(e:∃ t,v=.int (.ofNat i) t)(y:J9 ν ad h r xs):J9 ν ad h ((j,.tup [I a,I b],I i)::r) ((.tup [.int (.ofNat a),.int (.ofNat b)],p,v)::xs) :=
 .inl ⟨hj,_,p,v,xs,rfl,rfl,e,y⟩
theorem JoM {a b i:Nat}{j:Nat}{r:List (Nat×D×D)}{xs:List (IT×Addr×Value)}(hj:ν.dg j=0)(y:J9 ν ad h r xs):J9 ν ad h ((j,.tup [I a,I b],I i)::r) xs:=.inr ⟨hj,y⟩
theorem toC (h1:ν'.dg 10=bn b1)(h2:ν'.dg 11=bn b2)(h3:ν'.dg 12=bn b3){xs:List (IT×Addr×Value)}(x:Jaa ν ad h (JM b1 b2 b3) xs):J9 ν' ad' h gsC xs:=by
 have z1:∀ {xs},Jaa ν ad h (gA b3 [(k3,I 2)]) xs→J9 ν' ad' h [(12,k3,I 2)] xs:=by
  intro xs x
  cases b3 with
  | true=>obtain⟨p,v,xs',e,e1,e2⟩:=Jve x; subst e; exact Joc h3 e1 e2
  | false=>exact JoM h3 x
 have z2:∀ {xs},Jaa ν ad h (gA b2 [(k2,I 2)]++gA b3 [(k3,I 2)]) xs→J9 ν' ad' h [(11,k2,I 2),(12,k3,I 2)] xs:=by
  intro xs x
  cases b2 with
  | true=>obtain⟨p,v,xs',e,e1,e2⟩:=Jve x; subst e; exact Joc h2 e1 (z1 e2)
  | false=>exact JoM h2 (z1 x)
 rw[Jjf] at x
 cases b1 with
 | true=>obtain⟨p,v,xs',e,e1,e2⟩:=Jve x; subst e; exact Joc h1 e1 (z2 e2)
 | false=>exact JoM h1 (z2 x)
theorem JgY {a b i:Nat}{j:Nat}{r:List (Nat×D×D)}{xs:List (IT×Addr×Value)}(x:J9 ν ad h ((j,.tup [I a,I b],I i)::r) xs) :
  (ν.dg j=1∧∃ p v xs',xs=(.tup [.int (.ofNat a),.int (.ofNat b)],p,v)::xs'∧(∃ t,v=.int (.ofNat i) t)∧J9 ν ad h r xs')∨(ν.dg j=0∧J9 ν ad h r xs):=by
 refine Jf fun n1G=>?_;rcases x with ⟨q,x,p,v,xs',e,e2,e3,e4⟩ | ⟨q,x⟩
 · obtain rfl:=Jp e;exact n1G (.inl ⟨q,p,v,xs',e2,e3,e4⟩)
 · exact n1G (.inr ⟨q,x⟩)
theorem Jpb {a b i:Nat}{r:List (D×D)}{xs:List (IT×Addr×Value)}{p:Addr}{v:Value}(e:∃ t,v=.int (.ofNat i) t)(y:Jaa ν ad h r xs):Jaa ν ad h ((.tup [I a,I b],I i)::r) ((.tup [.int (.ofNat a),.int (.ofNat b)],p,v)::xs) :=
 ⟨_,p,v,xs,rfl,rfl,e,y⟩
theorem toT (h1:ν.dg 10=bn b1)(h2:ν.dg 11=bn b2)(h3:ν.dg 12=bn b3){xs:List (IT×Addr×Value)}(x:J9 ν ad h gsC xs):Jaa ν' ad' h (JM b1 b2 b3) xs:=by
 have z1:∀ {xs},J9 ν ad h [(12,k3,I 2)] xs→Jaa ν' ad' h (gA b3 [(k3,I 2)]) xs:=by
  intro xs x;refine Jf fun n1G=>?_
  cases b3 with
  | true =>
   rcases JgY x with ⟨q,p,v,xs',e,e1,e2⟩ | ⟨q,y⟩
   · subst e;exact n1G (Jpb e1 e2)
   · rw[h3] at q; cases q
  | false =>
   rcases JgY x with ⟨q,p,v,xs',e,e1,e2⟩ | ⟨q,y⟩
   · rw[h3] at q; cases q
   · exact n1G (y)
 have z2:∀ {xs},J9 ν ad h [(11,k2,I 2),(12,k3,I 2)] xs→Jaa ν' ad' h (gA b2 [(k2,I 2)]++gA b3 [(k3,I 2)]) xs:=by
  intro xs x;refine Jf fun n2G=>?_
  cases b2 with
  | true =>
   rcases JgY x with ⟨q,p,v,xs',e,e1,e2⟩ | ⟨q,y⟩
   · subst e;exact n2G (Jpb e1 (z1 e2))
   · rw[h2] at q; cases q
  | false =>
   rcases JgY x with ⟨q,p,v,xs',e,e1,e2⟩ | ⟨q,y⟩
   · rw[h2] at q; cases q
   · exact n2G (z1 y)
 rw[Jjf];refine Jf fun n3G=>?_
 cases b1 with
 | true =>
  rcases JgY x with ⟨q,p,v,xs',e,e1,e2⟩ | ⟨q,y⟩
  · subst e;exact n3G (Jpb e1 (z2 e2))
  · rw[h1] at q; cases q
 | false =>
  rcases JgY x with ⟨q,p,v,xs',e,e1,e2⟩ | ⟨q,y⟩
  · rw[h1] at q; cases q
  · exact n3G (z2 y)
theorem Jlt:∀ {l:List (D×D)}{xs:List (IT×Addr×Value)}{j:Nat}{x:IT×Addr×Value},Jaa ν ad h l xs→xs[j]?=some x→∃ p,l[j]?=some p∧IT.of ν p.1=some x.1
 | [],_,j,_,y,e=>by have y:_=[]:=y; subst y; cases e
 | p::l,_,0,_,⟨x,a,v,r,q,q2,q3,q4⟩,e=>by subst q2; obtain rfl:=Jp e; exact⟨p,rfl,q⟩
 | p::l,_,j+1,_,⟨x,a,v,r,q,q2,q3,q4⟩,e=>by subst q2; exact Jlt (j:=j) q4 e
def JwN (x:IT):Int:=match x with | .tup (.int i::_)=>i | _=>0
theorem JfC (ν:Vl):∃ ks:List IT,gsC.map (fun p=>IT.of ν p.2.1)=ks.map some∧ks.Nodup:=⟨[.tup [.int 14,.int 13],.tup [.int 22,.int 18],.tup [.int 24,.int 20]],rfl,List.Pairwise.of_map JwN (fun a b h e=>h (congrArg JwN e)) (show ([14,22,24]:List Int).Nodup by decide)⟩
theorem JqO {a b:Nat}{x:IT}{v:Value}(e:IT.of ν (.tup [I a,I b])=some x)(y:J2 h x v):Je ν ad h (.tup [I a,I b]) v:=by
 obtain rfl:=Jp e;obtain⟨p,items,e,t,g⟩:=y;exact⟨p,items,e,t,g⟩
end
noncomputable abbrev JK:Loc:=[(137,.obj 30),(154,.obj 45),(159,.opq 1)]
theorem Jig (y z:List Nat)(k:Fl→St→Bool):(ev F C 300).assign (.name 161) k1 (Jq (obX (.cdict gsC) (JbI [])) JK (dm0 [1] y z)) (fun st=>(ev F C 300).Ss (Jd q9) st k)=k .next (Jq (obX (.cdict gsC) (JbI [(k1,I 8)])) (JK++[(161,k1)]) (dm0 [1] y z)):=by kernel_rfl
theorem JhF (b:Bool)(x z:List Nat)(k:Fl→St→Bool):(ev F C 300).assign (.name 161) k2 (Jq (obX (.cdict gsC) (JbI (JM b false false))) JK (dm0 x [1] z)) (fun st=>(ev F C 300).Ss (Jd q9) st k)=k .next (Jq (obX (.cdict gsC) (JbI (JM b true false))) (JK++[(161,k2)]) (dm0 x [1] z)):=by cases b <;> kernel_rfl
theorem JhO (b b':Bool)(x y:List Nat)(k:Fl→St→Bool):(ev F C 300).assign (.name 161) k3 (Jq (obX (.cdict gsC) (JbI (JM b b' false))) JK (dm0 x y [1])) (fun st=>(ev F C 300).Ss (Jd q9) st k)=k .next (Jq (obX (.cdict gsC) (JbI (JM b b' true))) (JK++[(161,k3)]) (dm0 x y [1])):=by cases b <;> cases b' <;> kernel_rfl
theorem JC4 (g t:Jo)(dm:JP)(k:Fl→St→Bool):(ev F C 400).Ss [q10,q11] (Jq (obX g t) JK dm) k=k .next (Jq (obY g t (.list 0 Jae)) (JK++[(162,.obj 71),(139,.tup [I 1,I 0,I 0,I 3,I 0,I 0,I 1,I 1,I 0,I 1])]) dm):=by kernel_rfl
def Jx.re (c:Jx)(ν':Vl)(hi:∀ t,t<6→t≠3→ν'.iv t=c.ν.iv t)(hov:ν'.ov=c.ν.ov)(h5:ν'.pre 5=c.ν.pre 5)
  (ha:∃ k:Nat,k≤9000∧ν'.iv 3=200+(k:Int)∧(ν'.pre 6)[k]?=some (.tuple ((List.range 10).map fun j=>.int (ν'.dg j)))∧∀ j r,Js JW j=some r→ν'.dg j<r) (hf:∃ r,ν'.pre 6=pyD.go Jae++r):Jx :=
 { c with
  ν:=ν'
  small:=fun t ht=>by
   by_cases q:t=3
   · subst q; obtain⟨k,k0,k1,_⟩:=ha; omega
   · rw[hi t ht q]; exact c.small t ht
  pos:=by rw[hi 2 (by decide) (by decide)]; exact c.pos
  opqOk:=by rw[hov]; exact c.opqOk
  preOk:=by rw[h5]; exact c.preOk
  askOk:=by obtain⟨k,_,r⟩:=ha; exact⟨k,r⟩
  firstOk:=hf }
def Vl.goes (ν:Vl)(b1 b2 b3:Bool)(h:Heap):Vl:={ ν with dg:=fun j=>if j=10 then bn b1 else if j=11 then bn b2 else if j=12 then bn b3 else ν.dg j,fz:=fun a=>h.get? a }
theorem JcZ {ν:Vl}{b1 b2 b3:Bool}{h:Heap}{j:Nat}(hj:j<10):(ν.goes b1 b2 b3 h).dg j=ν.dg j:=by
 show (if j=10 then bn b1 else if j=11 then bn b2 else if j=12 then bn b3 else ν.dg j)=ν.dg j;rw[if_neg (by exact Nat.ne_of_lt ‹_›),if_neg (by omega),if_neg (by omega)]
theorem Job {f g:Nat→Nat}(e:∀ j,j<10→f j=g j):((List.range 10).map fun j=>PyData.int (f j))=(List.range 10).map fun j=>.int (g j):=by
 apply List.map_congr_left;intro i hi;rw[e i (List.mem_range.mp hi)]
theorem Jhz {j r:Nat}(e:Js JW j=some r):j<10:=by
 rw[JG] at e;exact (List.getElem?_eq_some_iff.mp e).1
def Jx.goes (c:Jx)(hk:c.ν.iv 3≤9000)(b1 b2 b3:Bool)(h:Heap):Jx:=c.re (c.ν.goes b1 b2 b3 h) (fun _ _ _=>rfl) rfl rfl (by
 obtain⟨k,k1,k2,k3⟩:=c.askOk;refine⟨k,by omega,k1,?_,fun j r e=>?_⟩
 · rw[Job (g:=c.ν.dg) fun j hj=>JcZ hj]; exact k2
 · rw[JcZ (Jhz e)]; exact k3 j r e) c.firstOk
theorem Jx.goes_same (c:Jx)(hk:c.ν.iv 3≤9000)(b1 b2 b3:Bool)(h:Heap):JE c (c.goes hk b1 b2 b3 h):=⟨rfl,rfl,rfl,rfl,rfl⟩
def stG (b1 b2 b3:Bool)(j:Nat):St:=Jq (obX (.cdict gsC) (JbI ((JM b1 b2 b3).take j))) JK (dm0 [bn b1] [bn b2] [bn b3])
def Jd5 (b1 b2 b3:Bool)(j:Nat)(d:D):St:=Jq (obX (.cdict gsC) (JbI ((JM b1 b2 b3).take j))) (JK++[(161,d)]) (dm0 [bn b1] [bn b2] [bn b3])
theorem Jro (k:Fl→St→Bool):(ev F C 300).assign (.name 161) k1 (stG true true true 0) (fun st=>(ev F C 300).Ss (Jd q9) st k)=k .next (Jd5 true true true 1 k1):=by
 have e1:stG true true true 0=Jq (obX (.cdict gsC) (JbI [])) JK (dm0 [1] [1] [1]):=rfl;rw[e1,Jig [1] [1] k]; rfl
theorem JpC (k:Fl→St→Bool):(ev F C 300).assign (.name 161) k2 (stG true true true 1) (fun st=>(ev F C 300).Ss (Jd q9) st k)=k .next (Jd5 true true true 2 k2):=by
 have e1:stG true true true 1=Jq (obX (.cdict gsC) (JbI (JM true false false))) JK (dm0 [1] [1] [1]):=rfl;rw[e1,JhF true [1] [1] k]; rfl
theorem JpM (k:Fl→St→Bool):(ev F C 300).assign (.name 161) k3 (stG true true true 2) (fun st=>(ev F C 300).Ss (Jd q9) st k)=k .next (Jd5 true true true 3 k3):=by
 have e1:stG true true true 2=Jq (obX (.cdict gsC) (JbI (JM true true false))) JK (dm0 [1] [1] [1]):=rfl;rw[e1,JhO true true [1] [1] k]; rfl
theorem Jpy (k:Fl→St→Bool):(ev F C 300).assign (.name 161) k1 (stG true true false 0) (fun st=>(ev F C 300).Ss (Jd q9) st k)=k .next (Jd5 true true false 1 k1):=by
 have e1:stG true true false 0=Jq (obX (.cdict gsC) (JbI [])) JK (dm0 [1] [1] [0]):=rfl;rw[e1,Jig [1] [0] k]; rfl
theorem Jpv (k:Fl→St→Bool):(ev F C 300).assign (.name 161) k2 (stG true true false 1) (fun st=>(ev F C 300).Ss (Jd q9) st k)=k .next (Jd5 true true false 2 k2):=by
 have e1:stG true true false 1=Jq (obX (.cdict gsC) (JbI (JM true false false))) JK (dm0 [1] [1] [0]):=rfl;rw[e1,JhF true [1] [0] k]; rfl
theorem JqX (k:Fl→St→Bool):(ev F C 300).assign (.name 161) k1 (stG true false true 0) (fun st=>(ev F C 300).Ss (Jd q9) st k)=k .next (Jd5 true false true 1 k1):=by
 have e1:stG true false true 0=Jq (obX (.cdict gsC) (JbI [])) JK (dm0 [1] [0] [1]):=rfl;rw[e1,Jig [0] [1] k]; rfl
theorem JqL (k:Fl→St→Bool):(ev F C 300).assign (.name 161) k3 (stG true false true 1) (fun st=>(ev F C 300).Ss (Jd q9) st k)=k .next (Jd5 true false true 2 k3):=by
 have e1:stG true false true 1=Jq (obX (.cdict gsC) (JbI (JM true false false))) JK (dm0 [1] [0] [1]):=rfl;rw[e1,JhO true false [1] [0] k]; rfl
theorem Jq2 (k:Fl→St→Bool):(ev F C 300).assign (.name 161) k1 (stG true false false 0) (fun st=>(ev F C 300).Ss (Jd q9) st k)=k .next (Jd5 true false false 1 k1):=by
 have e1:stG true false false 0=Jq (obX (.cdict gsC) (JbI [])) JK (dm0 [1] [0] [0]):=rfl;rw[e1,Jig [0] [0] k]; rfl
theorem JpJ (k:Fl→St→Bool):(ev F C 300).assign (.name 161) k2 (stG false true true 0) (fun st=>(ev F C 300).Ss (Jd q9) st k)=k .next (Jd5 false true true 1 k2):=by
 have e1:stG false true true 0=Jq (obX (.cdict gsC) (JbI (JM false false false))) JK (dm0 [0] [1] [1]):=rfl;rw[e1,JhF false [0] [1] k]; rfl
theorem Jru (k:Fl→St→Bool):(ev F C 300).assign (.name 161) k3 (stG false true true 1) (fun st=>(ev F C 300).Ss (Jd q9) st k)=k .next (Jd5 false true true 2 k3):=by
 have e1:stG false true true 1=Jq (obX (.cdict gsC) (JbI (JM false true false))) JK (dm0 [0] [1] [1]):=rfl;rw[e1,JhO false true [0] [1] k]; rfl
theorem Jp1 (k:Fl→St→Bool):(ev F C 300).assign (.name 161) k2 (stG false true false 0) (fun st=>(ev F C 300).Ss (Jd q9) st k)=k .next (Jd5 false true false 1 k2):=by
 have e1:stG false true false 0=Jq (obX (.cdict gsC) (JbI (JM false false false))) JK (dm0 [0] [1] [0]):=rfl;rw[e1,JhF false [0] [0] k]; rfl
theorem JpF (k:Fl→St→Bool):(ev F C 300).assign (.name 161) k3 (stG false false true 0) (fun st=>(ev F C 300).Ss (Jd q9) st k)=k .next (Jd5 false false true 1 k3):=by
 have e1:stG false false true 0=Jq (obX (.cdict gsC) (JbI (JM false false false))) JK (dm0 [0] [0] [1]):=rfl;rw[e1,JhO false false [0] [0] k]; rfl
theorem JnV:∀ (b1 b2 b3:Bool) (j:Nat) (p:D×D),(JM b1 b2 b3)[j]?=some p→(∃ a b,p.1=.tup [I a,I b])∧∀ k,(ev F C 300).assign (.name 161) p.1 (stG b1 b2 b3 j) (fun st=>(ev F C 300).Ss (Jd q9) st k)=k .next (Jd5 b1 b2 b3 (j+1) p.1)
 | true,true,true,0,p,e=>by
  refine Jf fun n1G=>?_;have e:some (k1,I 8)=some p:=e;obtain rfl:=Jp e;exact n1G ⟨⟨14,13,rfl⟩,Jro⟩
 | true,true,true,1,p,e=>by
  refine Jf fun n2G=>?_;have e:some (k2,I 2)=some p:=e;obtain rfl:=Jp e;exact n2G ⟨⟨22,18,rfl⟩,JpC⟩
 | true,true,true,2,p,e=>by
  refine Jf fun n3G=>?_;have e:some (k3,I 2)=some p:=e;obtain rfl:=Jp e;exact n3G ⟨⟨24,20,rfl⟩,JpM⟩
 | true,true,true,j+3,p,e=>by
  refine Jf fun n4G=>?_;have e:(none:Option (D×D))=some p:=e
  cases e
 | true,true,false,0,p,e=>by
  refine Jf fun n5G=>?_;have e:some (k1,I 8)=some p:=e;obtain rfl:=Jp e;exact n5G ⟨⟨14,13,rfl⟩,Jpy⟩
 | true,true,false,1,p,e=>by
  refine Jf fun n6G=>?_;have e:some (k2,I 2)=some p:=e;obtain rfl:=Jp e;exact n6G ⟨⟨22,18,rfl⟩,Jpv⟩
 | true,true,false,j+2,p,e=>by
  refine Jf fun n7G=>?_;have e:(none:Option (D×D))=some p:=e
  cases e
 | true,false,true,0,p,e=>by
  refine Jf fun n8G=>?_;have e:some (k1,I 8)=some p:=e;obtain rfl:=Jp e;exact n8G ⟨⟨14,13,rfl⟩,JqX⟩
 | true,false,true,1,p,e=>by
  refine Jf fun n9G=>?_;have e:some (k3,I 2)=some p:=e;obtain rfl:=Jp e;exact n9G ⟨⟨24,20,rfl⟩,JqL⟩
 | true,false,true,j+2,p,e=>by
  refine Jf fun n10G=>?_;have e:(none:Option (D×D))=some p:=e
  cases e
 | true,false,false,0,p,e=>by
  refine Jf fun n11G=>?_;have e:some (k1,I 8)=some p:=e;obtain rfl:=Jp e;exact n11G ⟨⟨14,13,rfl⟩,Jq2⟩
 | true,false,false,j+1,p,e=>by
  refine Jf fun n12G=>?_;have e:(none:Option (D×D))=some p:=e
  cases e
 | false,true,true,0,p,e=>by
  refine Jf fun n13G=>?_;have e:some (k2,I 2)=some p:=e;obtain rfl:=Jp e;exact n13G ⟨⟨22,18,rfl⟩,JpJ⟩
 | false,true,true,1,p,e=>by
  refine Jf fun n14G=>?_;have e:some (k3,I 2)=some p:=e;obtain rfl:=Jp e;exact n14G ⟨⟨24,20,rfl⟩,Jru⟩
 | false,true,true,j+2,p,e=>by
  refine Jf fun n15G=>?_;have e:(none:Option (D×D))=some p:=e
  cases e
 | false,true,false,0,p,e=>by
  refine Jf fun n16G=>?_;have e:some (k2,I 2)=some p:=e;obtain rfl:=Jp e;exact n16G ⟨⟨22,18,rfl⟩,Jp1⟩
 | false,true,false,j+1,p,e=>by
  refine Jf fun n17G=>?_;have e:(none:Option (D×D))=some p:=e
  cases e
 | false,false,true,0,p,e=>by
  refine Jf fun n18G=>?_;have e:some (k3,I 2)=some p:=e;obtain rfl:=Jp e;exact n18G ⟨⟨24,20,rfl⟩,JpF⟩
 | false,false,true,j+1,p,e=>by
  refine Jf fun n19G=>?_;have e:(none:Option (D×D))=some p:=e
  cases e
 | false,false,false,j+0,p,e=>by
  refine Jf fun n20G=>?_;have e:(none:Option (D×D))=some p:=e
  cases e
theorem Jf4 (g t:Jo)(loc:Loc)(dm:JP):(Jq (obX g t) loc dm).objs.get 32=some g:=by kernel_rfl
theorem Jly (g t:Jo)(loc:Loc)(dm:JP):(Jq (obX g t) loc dm).objs.get 62=some t:=by kernel_rfl
theorem JAf (g t:Jo)(loc:Loc)(dm:JP):JD (Jq (obX g t) loc dm).objs 71:=JaT (by kernel_rfl)
noncomputable def pmA (m:Nat):Pm:=⟨fun _=>true,fun _=>true,m,false⟩
theorem JBY (g t g' t':Jo)(loc loc':Loc)(dm dm':JP):chk (pmA 71) [32,62] (Jq (obX g t) loc dm).objs (Jq (obX g' t') loc' dm').objs 71=true:=by kernel_rfl
theorem Jm5 {ν:Vl}{b1 b2 b3:Bool}{h:Heap}{m:Nat}:JaM (pmA m) ν (ν.goes b1 b2 b3 h):=⟨fun _ _=>rfl,fun _ _=>rfl,fun _ _=>rfl,fun e=>by cases e⟩
noncomputable abbrev JsT:Loc:=JcK++[(154,.obj 45)]
def JlW:QS→QE
 | .for_ _ e _=>e
 | _=>.bad
theorem it9 (g t:Jo)(dm:JP)(k:D→St→Bool):(ev F C 300).E (JlW q9) (Jq (obX g t) JK dm) k=k (.obj 32) (Jq (obX g t) JK dm):=by kernel_rfl
theorem JKz:Jt NT G 40 Jj (JbJ (sN 9))=JlW q9:=by kernel_rfl
theorem JzY:∀ i d,lkp JK i=some d→lkp JsT i=some d:=fun i d e=>by
 have m:(i,d)∈JK:=JaD e;simp only[JK,List.mem_cons,List.not_mem_nil,or_false] at m;rcases m with m | m | m <;> (cases m; rfl)
theorem JcM {ad:List Addr}{m:Nat}(h:ad.length=m):ad.take m=ad:=List.take_of_length_le (by omega)
theorem JfR {ad ad3:List Addr}(p:Pre ad ad3)(h:ad3.length=ad.length):ad3=ad:=by
 refine List.ext_getElem? fun i=>?_;by_cases q:i<ad.length
 · rw[p i _ (List.getElem?_eq_getElem q),List.getElem?_eq_getElem q]
 · rw[List.getElem?_eq_none (by omega),List.getElem?_eq_none (by omega)]
section
variable {c:Jx}{ad:List Addr}{f:JH}{h:Heap}{b1 b2 b3:Bool}
theorem JeR {a b:Nat}(h:a=b):a∈[b]:=h ▸ List.mem_singleton.mpr rfl
theorem JCx {ν:Vl}(z:∀ j,j<10→ν.dg j=0)(h1:ν.dg 10=bn b1)(h2:ν.dg 11=bn b2)(h3:ν.dg 12=bn b3):∀ j l,Js (dm0 [bn b1] [bn b2] [bn b3]) j=some l→ν.dg j∈l
 | 0,_,e=>by cases e; exact JeR (z 0 (by decide))
 | 1,_,e=>by cases e; exact JeR (z 1 (by decide))
 | 2,_,e=>by cases e; exact JeR (z 2 (by decide))
 | 3,_,e=>by cases e; exact JeR (z 3 (by decide))
 | 4,_,e=>by cases e; exact JeR (z 4 (by decide))
 | 5,_,e=>by cases e; exact JeR (z 5 (by decide))
 | 6,_,e=>by cases e; exact JeR (z 6 (by decide))
 | 7,_,e=>by cases e; exact JeR (z 7 (by decide))
 | 8,_,e=>by cases e; exact JeR (z 8 (by decide))
 | 9,_,e=>by cases e; exact JeR (z 9 (by decide))
 | 10,_,e=>by cases e; exact JeR h1
 | 11,_,e=>by cases e; exact JeR h2
 | 12,_,e=>by cases e; exact JeR h3
 | _+13,_,e=>by cases e
theorem JpL (hk:c.ν.iv 3≤9000)(h0:c.ad₀.length≤71)(hl:ad.length=71)(z:∀ j,j<10→c.ν.dg j=0){dm:JP}(R:Jk c ad [f] (Jq (obX (.dict 2 (JM b1 b2 b3)) (.dict 3 [])) JsT dm) h):Jk (c.goes hk b1 b2 b3 h) ad [f] (stG b1 b2 b3 0) h:=by
 have e0:stG b1 b2 b3 0=Jq (obX (.cdict gsC) (.dict 3 [])) JK (dm0 [bn b1] [bn b2] [bn b3]):=rfl;rw[e0];have q:=JlS (c.goes_same hk b1 b2 b3 h) (p:=pmA 71) Jm5 R (st':=Jq (obX (.cdict gsC) (.dict 3 [])) JK (dm0 [bn b1] [bn b2] [bn b3])) (JBY _ _ _ _ _ _ _ _) (JAf _ _ _ _) rfl (Nat.le_refl _) h0 ?_ rfl JzY (by kernel_rfl)
  (JCx (fun j hj=>by rw[show (c.goes hk b1 b2 b3 h).ν.dg j=c.ν.dg j from JcZ hj]; exact z j hj) rfl rfl rfl)
 · rw[show (pmA 71).m=71 from rfl,JcM hl] at q; exact q
 · intro i hi;rcases List.mem_cons.mp hi with rfl | hi
   · refine⟨_,_,Jf4 _ _ _ _,rfl,Jf4 _ _ _ _,fun _ _ e=>(by cases e),fun _ _ e=>(by cases e),?_⟩;rintro a ha ⟨xs,a1,a2⟩;exact⟨JfC _,rfl,xs,a1,toC rfl rfl rfl a2⟩
   · cases List.mem_singleton.mp hi
     exact⟨_,_,Jly _ _ _ _,rfl,Jly _ _ _ _,fun _ _ e=>(by cases e),fun _ _ e=>(by cases e),fun a ha x=>x⟩
theorem JmQ {prog:Program}{w:World}{ν:Vl}{cA:List Addr}(hc:c.prog=prog∧c.w=w∧c.ν=ν∧c.clsA=cA){a:Addr}:∀ {l:List (D×D)},JL prog w ν cA ad h a (JbI l)→∃ xs,h.DictOfH (Jan prog w) a xs∧Jaa ν ad h l xs
 | [],x=>by
  obtain⟨rfl,rfl,rfl,rfl⟩:=hc;obtain⟨xs,a1,a2⟩:=JL.rekind (kd:=3) x 2; exact⟨xs,a1,a2⟩
 | _::_,⟨xs,a1,a2⟩=>⟨xs,a1,a2⟩
theorem Jo2 (hk:c.ν.iv 3≤9000)(h0:c.ad₀.length≤71)(hl:ad.length=71)(z:∀ j,j<10→c.ν.dg j=0)(d1:c.ν.dg 10=bn b1)(d2:c.ν.dg 11=bn b2)(d3:c.ν.dg 12=bn b3){n:Nat}(hn:n=(JM b1 b2 b3).length)(R:Jk c ad [f] (stG b1 b2 b3 n) h) :
  Jk (c.goes hk b1 b2 b3 h) ad [f] (Jq (obX (.cdict gsC) (.cdict gsC)) JK (dm0 [bn b1] [bn b2] [bn b3])) h:=by
 unfold stG at R;rw[hn,List.take_length] at R;have q:=JlS (c.goes_same hk b1 b2 b3 h) (p:=pmA 71) Jm5 R (st':=Jq (obX (.cdict gsC) (.cdict gsC)) JK (dm0 [bn b1] [bn b2] [bn b3])) (JBY _ _ _ _ _ _ _ _) (JAf _ _ _ _) rfl (Nat.le_refl _) h0 ?_ rfl (fun _ _ e=>e) (by kernel_rfl)
  (JCx (fun j hj=>by rw[show (c.goes hk b1 b2 b3 h).ν.dg j=c.ν.dg j from JcZ hj]; exact z j hj) rfl rfl rfl)
 · rw[show (pmA 71).m=71 from rfl,JcM hl] at q; exact q
 · intro i hi;rcases List.mem_cons.mp hi with rfl | hi
   · refine⟨_,_,Jf4 _ _ _ _,rfl,Jf4 _ _ _ _,fun _ _ e=>(by cases e),fun _ _ e=>(by cases e),?_⟩;rintro a ha ⟨nd,fr,xs,a1,a2⟩;exact⟨JfC _,rfl,xs,a1,toC rfl rfl rfl (toT (ν':=c.ν) (ad':=ad) d1 d2 d3 a2)⟩
   · cases List.mem_singleton.mp hi
     have aD:∀ l,(∀ k d,JbI l≠.ns k d)∧JdM (JbI l)=false:=fun l=>by cases l <;> exact⟨fun _ _ e=>(by cases e),rfl⟩
     refine⟨_,_,Jly _ _ _ _,(aD _).2,Jly _ _ _ _,fun _ _ e=>(by cases e),(aD _).1,fun a ha x=>?_⟩;obtain⟨xs,a1,a2⟩:=JmQ ⟨rfl,rfl,rfl,rfl⟩ x;exact⟨JfC _,rfl,xs,a1,toC rfl rfl rfl a2⟩
def JCG (ν1:Vl)(b1 b2 b3:Bool)(j:Nat)(c:Jx)(st:St):Prop:=c.ν=ν1∧st=stG b1 b2 b3 j
theorem Jzk {ν1:Vl}(hl:ad.length=71)(d1:ν1.dg 10=bn b1)(d2:ν1.dg 11=bn b2)(d3:ν1.dg 12=bn b3){Da:Addr}(hD:ad[32]?=some Da){o:Obj}{es:Array DictEntry}{ep:Nat}(ho:ν1.fz Da=some o)(hd:o.data=.dict es ep)(j:Nat) :
  Jk1 c F 300 (.name 161) (Jd q9) f [] ad (JCG ν1 b1 b2 b3) (fun j v=>∃ e,es[j]?=some e∧v=e.key) j:=by
 rintro c1 st1 h1 S1 R1 ⟨i1,rfl⟩ v ⟨e,he,rfl⟩;refine Jf fun n1G=>?_;obtain⟨a,ha,⟨nd,fr,xs,hx,hr⟩,_⟩:=R1.objs 32 _ (Jf4 _ _ _ _);obtain rfl:=sjt hD ha;obtain⟨o',es',ep',g1,g2,g3,g4,g5,g6⟩:=hx;rw[i1,ho] at fr;obtain rfl:=sjt fr g1;rw[hd] at g3; cases g3;have ea:=entry_at g4 j;rw[he] at ea
 cases ex:xs[j]? with
 | none=>rw[ex] at ea; cases ea
 | some x =>
  refine n1G ?_;clear n1G
  (rw[ex] at ea; obtain rfl:=Jp ea)
  refine Jf fun n2G=>?_;have hr':=toT (ν':=c1.ν) (ad':=ad) (by rw[i1]; exact d1) (by rw[i1]; exact d2) (by rw[i1]; exact d3) hr;obtain⟨p,p1,p2⟩:=Jlt hr' ex;obtain⟨⟨ka,kb,hkk⟩,run⟩:=JnV b1 b2 b3 j p p1;have hit:=(g5 x (List.mem_of_getElem? ex)).2;refine n2G ?_;clear n2G;refine⟨c1,_,p.1,fun st=>st=Jd5 b1 b2 b3 (j+1) p.1,S1,R1,?_,?_,?_⟩
  · rw[hkk]; rw[hkk] at p2; exact JqO p2 hit
  · rw[run]; exact Jb4.mpr ⟨rfl,rfl⟩
  · rintro ad3 st3 h3 R3 P3 rfl;have:=JfR P3 (by rw[R3.len,hl]; rfl);subst this;exact⟨c1,_,S1,R3.lessLoc (l':=JK) (fun i d e=>by
     show lkp (JK++[(161,p.1)]) i=some d;have m:(i,d)∈JK:=JaD e;simp only[JK,List.mem_cons,List.not_mem_nil,or_false] at m;rcases m with m | m | m <;> (cases m; rfl)),i1,rfl⟩
end
theorem Jl2 {c:Jx}(H:∀ c',JE c c'→∀ n,All c' F JB n){f:JH}{ad:List Addr}(h0:c.ad₀.length≤71)(hl:ad.length=71)(hk:c.ν.iv 3≤9000)(z:∀ j,j<10→c.ν.dg j=0){b1 b2 b3:Bool}{dm:JP}
  {env:Env}{A:Around}{s:Shared} (hE:JY env f) (hs:f.sc=Jj) (hA:Jz A 300) (R:Jk c ad [f] (Jq (obX (.dict 2 (JM b1 b2 b3)) (.dict 3 [])) JsT dm) s.heap) {Q:Flow→Shared→Prop}
  (k:∀ c' s',JE c c'→c'.ν.iv=c.ν.iv→c'.ν.pre=c.ν.pre→c'.ν.ov=c.ν.ov→(∀ i,10≤i→i<13→c'.ν.dg i≤1)→Jk c' ad [f] (Jq (obX (.cdict gsC) (.cdict gsC)) JK (dm0 [bn b1] [bn b2] [bn b3])) s'.heap→JN ad [f] s ad s'→Q .next s') :
  wpAny (model c.prog c.w) A (exec (.For (Jgk (sN 9)) (JbJ (sN 9)) (Je8 (sN 9)) [] (JmZ (sN 9))) env) Q (fun _ _=>False) s:=by
 refine Jf fun n1G=>?_;obtain⟨t1,t2,t3⟩:=JGL;have R1:=JpL hk h0 hl z R;have S1:=c.goes_same hk b1 b2 b3 s.heap;generalize hc1:c.goes hk b1 b2 b3 s.heap=c1 at R1 S1;have hν:c1.ν=c.ν.goes b1 b2 b3 s.heap:=by rw[← hc1]; rfl
 obtain⟨Da,hD,⟨nd,fr,xs,hx,hr⟩,low⟩:=R1.objs 32 _ (Jf4 _ _ _ _);obtain⟨o,es,ep,g1,g2,g3,g4,g5,g6⟩:=id hx;have d1:c1.ν.dg 10=bn b1:=by rw[hν]; rfl
 have d2:c1.ν.dg 11=bn b2:=by rw[hν]; rfl
 have d3:c1.ν.dg 12=bn b3:=by rw[hν]; rfl
 have hsz:es.size=(JM b1 b2 b3).length:=by
  rw[size_of_entries g4,Jdh (c:=c1) (toT (ν':=c1.ν) (ad':=ad) d1 d2 d3 hr)]
 have hsys:Da≠sysModules:=by
  rintro rfl;refine Jf fun n2G=>?_;obtain⟨o,ho⟩:=c1.lowSys;rcases low with q | q
  · cases q
  · rw[ho] at q; cases q
 have hh:∀ c',JE c1 c'→HA c' F 300 Jj (.name 161) (Jgk (sN 9))∧HSs c' F 300 Jj (Jd q9) (Je8 (sN 9)):=fun c' S=>by
  have A2:=H c' (S1.trans S) 300;refine⟨?_,?_⟩
  · rw[← t1]; exact A2.A 40 Jj _
  · rw[← t2]; exact A2.Ss 40 Jj _
 have he:HE c1 F 300 Jj (JlW q9) (JbJ (sN 9)):=by rw[← JKz]; exact (H c1 S1 300).E 40 Jj _
 refine n1G ?_;clear n1G;rw[← S1.prog,← S1.w];refine Jn7 he t3 hh hE hs hA hA R1 (INV:=JCG c1.ν b1 b2 b3) (i:=32) (es:=es) (ep:=ep) ?_ hD hsys ?_ ⟨rfl,rfl⟩ (fun j hj=>Jzk hl d1 d2 d3 hD (by rw[← fr]; exact g1) g3 j) ?_
 · rw[show stG b1 b2 b3 0=Jq (obX (.cdict gsC) (.dict 3 [])) JK (dm0 [bn b1] [bn b2] [bn b3]) from rfl,it9];exact Ja1.mpr ⟨rfl,rfl⟩
 · rintro j c2 st2 h2 S2 R2 ⟨i1,rfl⟩;refine Jf fun n3G=>?_;obtain⟨a,ha,⟨_,fr2,_⟩,_⟩:=R2.objs 32 _ (Jf4 _ _ _ _);obtain rfl:=sjt hD ha;rw[i1,← fr] at fr2;exact n3G ⟨o,by rw[fr2]; exact g1,g2.1,g3⟩
 · rintro s' ⟨⟨c2,st2,S2,R2,i1,rfl⟩,X⟩;have hk2:c2.ν.iv 3≤9000:=by rw[i1,hν]; exact hk
   have R3:=Jo2 (c:=c2) hk2 (by rw[S2.ad₀,S1.ad₀]; exact h0) hl (fun j hj=>by rw[i1,hν,JcZ hj]; exact z j hj) (by rw[i1]; exact d1) (by rw[i1]; exact d2) (by rw[i1]; exact d3) hsz R2;refine k _ s' ((S1.trans S2).trans (c2.goes_same hk2 b1 b2 b3 s'.heap)) ?_ ?_ ?_ ?_ R3 X
   · show c2.ν.iv=_; rw[i1,hν]; rfl
   · show c2.ν.pre=_; rw[i1,hν]; rfl
   · show c2.ν.ov=_; rw[i1,hν]; rfl
   · intro i a b;have:i=10∨i=11∨i=12:=by omega
     have bl:∀ b,bn b≤1:=fun b=>by cases b <;> decide
     rcases this with h | h | h <;> subst h
     · exact bl b1
     · exact bl b2
     · exact bl b3
def dgN:List Nat→Nat→List Nat
 | [],_=>[]
 | r::rs,n=>n % r::dgN rs (n / r)
theorem Jh3 {ν:Vl}:∀ (l:List Nat) (e:IE) (m:Nat),e.val ν=(m:Int)→D.dat.go ν (dgE l e)=(dgN l m).map fun i:Nat=>PyData.int (i:Int)
 | [],_,_,_=>rfl
 | r::rs,e,m,h=>by
  have q1:(IE.op 4 e (.lit (.ofNat r))).val ν=((m % r:Nat):Int):=by
   show Int.fmod (e.val ν) (Int.ofNat r)=_;rw[h]; exact (Int.ofNat_fmod m r).symm
  have q2:(IE.op 3 e (.lit (.ofNat r))).val ν=((m / r:Nat):Int):=by
   show Int.fdiv (e.val ν) (Int.ofNat r)=_;rw[h]; exact (Int.ofNat_fdiv m r).symm
  show PyData.int ((IE.op 4 e (.lit (.ofNat r))).val ν)::D.dat.go ν (dgE rs (IE.op 3 e (.lit (.ofNat r))))=_;rw[q1,Jh3 rs _ (m / r) q2]; rfl
noncomputable def JbK (a:List Nat):PyData:=.tuple ((List.range 10).map fun j=>.int ((a.getD j 0:Nat):Int))
theorem JlI (m:Nat):PyData.tuple ((dgN JW m).map fun i:Nat=>PyData.int (i:Int))=JbK (dgN JW m):=rfl
def OkA (a:List Nat):Prop:=∀ j r,Js JW j=some r→a.getD j 0<r
theorem JoQ:∀ (l:List Nat) (m j r:Nat),(∀ x∈l,0<x)→l[j]?=some r→(dgN l m).getD j 0<r
 | [],_,j,_,_,e=>by cases e
 | x::l,m,0,r,h,e=>by
  obtain rfl:=Jp e;exact Nat.mod_lt _ (h _ (.head _))
 | x::l,m,j+1,r,h,e=>JoQ l (m / x) j r (fun y hy=>h y (.tail _ hy)) e
theorem Jof (m:Nat):OkA (dgN JW m):=fun j r e=>JoQ JW m j r (by decide) (by rw[← JG]; exact e)
def JG0:IE→Nat
 | .lit i=>i.toNat
 | _=>0
def Jtz:D→List Nat
 | .tup l=>l.map fun d=>match d with | .int e=>JG0 e | _=>0
 | _=>[]
def A0:List (List Nat):=Jae.map Jtz
theorem Jo1:pyD.go Jae=A0.map JbK:=by kernel_rfl
theorem Jex:A0.length=23:=by kernel_rfl
def okB (a:List Nat):Bool:=(List.range 10).all fun j=>match Js JW j with | some r=>Nat.blt (a.getD j 0) r | none=>true
theorem Jto {a:List Nat}(h:okB a=true):OkA a:=fun j r e=>by
 have:=List.all_eq_true.mp h j (List.mem_range.mpr (Jhz e));rw[e] at this;exact Nat.blt_eq.mp this
theorem JlD:∀ a∈A0,OkA a:=fun a h=>Jto (List.all_eq_true.mp (show A0.all okB=true by kernel_rfl) a h)
theorem Jmy (ν:Vl):D.dat.go ν Jae=pyD.go Jae:=by kernel_rfl
theorem Jko:Jw (Jce 8) Jae=true:=by kernel_rfl
def n2 (n:Nat):Nat:=(n*7+5) % 1658880
def Jbx (ns:List Nat):List (List Nat):=ns.flatMap fun n=>[dgN JW n,dgN JW (n2 n)]
theorem Jl0 {ns:List Nat}:∀ a∈Jbx ns,OkA a:=fun a h=>by
 obtain⟨n,_,hn⟩:=List.mem_flatMap.mp h;rcases List.mem_cons.mp hn with e | hn
 · rw[e]; exact Jof _
 · rw[List.mem_singleton.mp hn]; exact Jof _
theorem JfM:∀ ns:List Nat,(Jbx ns).length=2*ns.length
 | []=>rfl
 | n::ns=>by
  show (_::_::Jbx ns).length=_;simp only[List.length_cons,JfM ns]; omega
theorem Jjo (ns:List Nat)(n:Nat):Jbx (ns++[n])=Jbx ns++[dgN JW n,dgN JW (n2 n)]:=by
 simp[Jbx,List.flatMap_append]
theorem Jna {ν:Vl}{n:Nat}(h:ν.iv 10=(n:Int)):e1.val ν=(n:Int)∧e2.val ν=(n2 n:Int):=by
 have a:e1.val ν=(n:Int):=by show ν.iv 10+0=_; omega
 refine⟨a,?_⟩;show Int.fmod (e1.val ν*7+5) 1658880=_;rw[a,show (n:Int)*7+5=((n*7+5:Nat):Int) by omega];exact (Int.ofNat_fmod (n*7+5) 1658880).symm
abbrev obN:List Jo:=obY (.cdict gsC) (.cdict gsC) (.list 6 [])
def stN (loc:Loc):St:=Jq obN loc Jco
noncomputable abbrev Jee:Loc:=[(137,.obj 30),(154,.obj 45),(162,.obj 71),(159,.opq 1)]
def Jle:List D:=[.tup (dgE JW e1),.tup (dgE JW e2)]
def Jpu:St:=Jq (obY (.cdict gsC) (.cdict gsC) (.list 6 Jle)++[.list 0 (dgE JW e1),.list 0 (dgE JW e2)]) (JaE++[(127,.int e1)]) Jco
theorem JEu (k:Fl→St→Bool):(ev F C 300).assign (.name 127) (.int e1) (stN JaE) (fun st=>(ev F C 300).Ss (Jd q12) st k)=k .next Jpu:=JKJ _ _ _ k
theorem Jrv (k:D→St→Bool):(ev F C 300).E (JlW q12) (stN Jee) k=k (.opq 1) (stN Jee):=by kernel_rfl
theorem JA0:Jt NT G 40 Jj (JbJ (sN 12))=JlW q12:=by kernel_rfl
def pmN (b:Bool)(m:Nat):Pm:=⟨fun t=>Jh (Jaz (Nat.beq t 10)) (match b with | true=>Jh (Jaz (Nat.beq t 6)) (Jaz (Nat.beq t 3)) | false=>true),fun _=>true,m,true⟩
theorem JNg (loc loc':Loc):chk (pmN false 72) [] (stN loc).objs (stN loc').objs 72=true:=by kernel_rfl
theorem JFF:chk (pmN true 72) [71] Jpu.objs (stN JaE).objs 72=true:=by kernel_rfl
theorem JuG (loc:Loc):JD (stN loc).objs 72:=JaT (by kernel_rfl)
theorem Jnm (loc:Loc):(stN loc).objs.get 71=some (.list 6 []):=by kernel_rfl
theorem Jrr:Jpu.objs.get 71=some (.list 6 Jle):=by kernel_rfl
theorem JmM:Jw (Jce 8) Jle=true:=by kernel_rfl
theorem Jod {ν:Vl}{n:Nat}(h:ν.iv 10=(n:Int)):D.dat.go ν Jle=[JbK (dgN JW n),JbK (dgN JW (n2 n))]:=by
 obtain⟨a,b⟩:=Jna h;show [PyData.tuple (D.dat.go ν (dgE JW e1)),PyData.tuple (D.dat.go ν (dgE JW e2))]=_;rw[Jh3 JW e1 n a,Jh3 JW e2 (n2 n) b,JlI,JlI]
section
variable {c:Jx}{F:FT'}{n:Nat}{sc:Scope}{q:QT}{t:Expr}{qs:List QS}{ss:List Stmt}{f:JH}{fs:List JH}{ad:List Addr}{INV:Nat→Jx→St→Prop}{VAL:Nat→Value→Prop}
theorem JlU {pos:Pos}{qe:QE}{ee:Expr}{n':Nat}(he:HE c F n' sc qe ee)(hset:JcD ee=true)
  (H:∀ c',JE c c'→HA c' F n sc q t∧HSs c' F n sc qs ss) {env:Env}{A:Around}{st:St}{s:Shared} (hE:JY env f) (hs:f.sc=sc) (hA:Jz A n) (hA':Jz A n') (R:Jk c ad (f::fs) st s.heap) {o:Nat}{L:Addr}{items:Array Value} (hev:(ev F C n').E qe st (kD fun d st'=>d=.opq o∧st'=st)=true)
  (hov:c.ν.ov o=.ref L) (hl:s.heap.IsList L items) (nL:L ∉ ad) (nF:L ∉ (f::fs).map (·.L))
  {st0:St} (less:∀ h,Jk c ad (f::fs) st h→Jk c ad (f::fs) st0 h) (start:INV 0 c st0) (T:∀ j,j<items.size→Jk1 c F n q qs f fs ad INV (fun j v=>items[j]?=some v) j) {Q:Flow→Shared→Prop} (k:∀ s',Jfg c f fs ad INV s items.size s'→s'.heap.IsList L items→Q .next s') :
  wpAny (model c.prog c.w) A (exec (.For t ee ss [] pos) env) Q (fun _ _=>False) s:=by
 refine wpAny_For (wpAny_mono (he hE hs hA' R hev (Q:=fun x s₁=>wpAny (model c.prog c.w) A (pyIter x) (fun it s2=>codeAny (model c.prog c.w) A (.forLoop t it ss [] env) (fun r s'=>match r with | .ok f=>Q f s' | .error _=>False) s2) (fun _ _=>False) s₁) fun ad1 st1 s1 v1 d1 R1 x1 i1 e1=>?_) (fun x s₁ h₁=>wpAny_mono h₁ (fun it s₂ h₂=>codeAny_mono h₂ fun r s' h=>by cases r <;> first | exact h | exact h.elim) fun _ _ q=>q) fun _ _ q=>q) (fun x=>Jcf hset env x)
 refine Jf fun n1G=>?_;obtain⟨rfl,rfl⟩:=Ja1.mp e1;have i1:v1=c.ν.ov o:=i1;rw[hov] at i1;subst i1;have ea:=Jcp R R1 x1.pre;subst ea;have keepL:∀ {s':Shared},JN ad1 (f::fs) s ad1 s'→s'.heap.IsList L items:=fun {s'} X=>by
  obtain⟨ob,h1,h2⟩:=hl;exact⟨ob,X.keep _ _ h1 nL nF,h2⟩
 have hl1:=keepL x1;refine n1G ?_;clear n1G;refine wpAny_pyIter_list hl1 ?_;have k1:∀ b o,s1.heap.get? b=some o→(s1.heap.push { cls:=.type "list_iterator",data:=.fields #[.ref L,.int 0 0] }).get? b=some o:=fun _ _ e=>Heap.get?_push_of_some _ e;obtain⟨F1,F2,F3⟩:=R1.fresh (Jl s1.heap);have Ra:=R1.grow k1;have Xa:JN ad1 (f::fs) s1 ad1 { s1 with heap:=s1.heap.push { cls:=.type "list_iterator",data:=.fields #[.ref L,.int 0 0] } }:=.grow k1 rfl rfl rfl;have fr0:s.heap.get? s1.heap.objs.size=none:=by
  cases q:s.heap.get? s1.heap.objs.size with
  | none=>rfl
  | some o=>have:=x1.keep _ _ q F1 F2; rw[Jl] at this; cases this
 refine JbE (I:=fun m s'=>∃ j,Jfg c f fs ad1 INV s j s'∧s'.heap.IsListIter s1.heap.objs.size L j∧j≤items.size∧m=items.size - j) ?_ items.size
  ⟨0,⟨⟨c,st0,.refl c,less _ Ra,start⟩,x1.trans R1 Xa⟩,⟨_,Heap.get?_push_size _ rfl,rfl,rfl⟩,Nat.zero_le _,rfl⟩
 rintro m s' ⟨j,hH,hit,hj,rfl⟩;refine Jf fun n2G=>?_;obtain⟨oi,ho,hc,hd⟩:=id hit;have hq:JaC oi:=.inl hc;have hl2:=keepL hH.2;by_cases hjN:j<items.size
 · refine n2G ?_;clear n2G;refine wpAny_pyNext_list_item hit hl2 (Array.getElem?_eq_getElem hjN) fun h' hi' sb=>?_;have kp:=J4 ho hq hd sb.extBut;obtain⟨o2,ho2,hc2,hd2⟩:=id hi';refine⟨⟨o2,ho2,.inl hc2⟩,?_⟩;refine JhV H hE hs hA (T j hjN) (hH.side' (s':={ s' with heap:=h' }) fr0 F1 F2 F3 sb.extBut kp rfl rfl rfl) (Array.getElem?_eq_getElem hjN) fun s3 hH3 X3=>?_;have y2:=X3.keep _ _ ho2 F1 F2;exact⟨items.size - (j+1),by omega,j+1,hH3,⟨o2,y2,hc2,hd2⟩,hjN,rfl⟩
 · have:j=items.size:=by omega
   subst this;refine n2G ?_;clear n2G;refine wpAny_pyNext_list_end hA.1 hit hl2 (Array.getElem?_eq_none (Nat.le_refl _)) fun h' sb=>?_;have kp:=J4 ho hq hd sb;have hH2:=hH.side' (s':={ s' with heap:=h' }) fr0 F1 F2 F3 sb kp rfl rfl rfl;exact k _ hH2 (keepL hH2.2)
end
theorem Jux (g t a:Jo)(loc:Loc)(dm:JP):(Jq (obY g t a) loc dm).objs.get 71=some a:=by kernel_rfl
def d0 (j:Nat):Nat:=(A0.getD 0 []).getD j 0
theorem Jso:A0.getD 0 []∈A0:=by
 have:A0.getD 0 []=A0[0]'(by rw[Jex]; decide):=by rw[List.getD_eq_getElem?_getD,List.getElem?_eq_getElem (by rw[Jex]; decide)]; rfl
 rw[this]; exact List.getElem_mem _
theorem JkZ {l:List (List Nat)}{k:Nat}(h:k<l.length):(l.map JbK)[k]?=some (.tuple ((List.range 10).map fun j=>.int (((l.getD k []).getD j 0:Nat):Int))):=by
 rw[List.getElem?_map,List.getD_eq_getElem?_getD,List.getElem?_eq_getElem h]; rfl
def Vl.in (ν:Vl):Vl:={ ν with pre:=fun t=>if t=6 then pyD.go Jae else ν.pre t,iv:=fun t=>if t=3 then 200 else if t=6 then 23 else ν.iv t,dg:=fun j=>if j<10 then d0 j else ν.dg j }
def Jx.in (c:Jx):Jx:=c.re c.ν.in (fun t h1 h2=>by show (if t=3 then 200 else if t=6 then 23 else c.ν.iv t)=_; rw[if_neg h2,if_neg (by exact Nat.ne_of_lt ‹_›)]) rfl rfl (by
 refine⟨0,by decide,rfl,?_,fun j r e=>?_⟩
 · show (pyD.go Jae)[0]?=some (.tuple ((List.range 10).map fun j=>.int (((if j<10 then d0 j else c.ν.dg j):Nat):Int)));rw[Job (g:=d0) fun j hj=>if_pos hj,Jo1];exact JkZ (l:=A0) (k:=0) (by rw[Jex]; decide)
 · show (if j<10 then d0 j else c.ν.dg j)<r;rw[if_pos (Jhz e)];exact JlD _ Jso j r e) ⟨[],(List.append_nil _).symm⟩
theorem Jx.in_same (c:Jx):JE c c.in:=⟨rfl,rfl,rfl,rfl,rfl⟩
theorem Jlw {ν:Vl}{h:Heap}{vs:List Value}(e:(vs.length:Int)=ν.iv 6)(l:vs.length≤100000)(g:IsP.go h (ν.pre 6) vs):Jac ν h 6 vs:=by
 unfold Jac;rw[if_neg (by decide)];exact⟨e,l,fun _=>g⟩
theorem Jrz {ν:Vl}{h:Heap}{vs:List Value}(x:Jac ν h 6 vs):(vs.length:Int)=ν.iv 6∧vs.length≤100000∧IsP.go h (ν.pre 6) vs:=by
 unfold Jac at x;rw[if_neg (by decide)] at x;exact⟨x.1,x.2.1,x.2.2 (.inr rfl)⟩
noncomputable abbrev Jt1:Loc:=JK++[(162,.obj 71),(139,.tup [I 1,I 0,I 0,I 3,I 0,I 0,I 1,I 1,I 0,I 1])]
theorem JFC:∀ i d,lkp Jee i=some d→lkp Jt1 i=some d:=fun i d e=>by
 have m:(i,d)∈Jee:=JaD e;simp only[Jee,List.mem_cons,List.not_mem_nil,or_false] at m;rcases m with m | m | m | m <;> (cases m; rfl)
theorem JK5:∀ i d,lkp JaE i=some d→lkp Jee i=some d:=fun i d e=>by
 have m:(i,d)∈JaE:=JaD e;simp only[JaE,List.mem_cons,List.not_mem_nil,or_false] at m;rcases m with m | m | m <;> (cases m; rfl)
theorem JCM {d':D}:∀ i d,lkp JaE i=some d→lkp (JaE++[(127,d')]) i=some d:=fun i d e=>by
 have m:(i,d)∈JaE:=JaD e;simp only[JaE,List.mem_cons,List.not_mem_nil,or_false] at m;rcases m with m | m | m <;> (cases m; rfl)
theorem JHo (g t:Jo)(hg:True)(dm:JP):chk (pmN true 72) [71] (Jq (obY (.cdict gsC) (.cdict gsC) (.list 0 Jae)) Jt1 dm).objs (stN Jee).objs 72=true:=by kernel_rfl
section
variable {c:Jx}{ad:List Addr}{f:JH}{h:Heap}
theorem Jqo (h0:c.ad₀.length≤72)(hl:ad.length=72)(hg:∀ i,10≤i→i<13→c.ν.dg i≤1){dm:JP}(R:Jk c ad [f] (Jq (obY (.cdict gsC) (.cdict gsC) (.list 0 Jae)) Jt1 dm) h):Jk c.in ad [f] (stN Jee) h:=by
 have q:=JlS c.in_same (p:=pmN true 72) ⟨fun t e=>?_,fun t e=>?_,fun _ _=>rfl,fun _=>⟨rfl,fun j hj=>?_⟩⟩ R (st':=stN Jee) (JHo (.list 0 []) (.list 0 []) trivial dm) (JuG _) rfl (Nat.le_refl _) h0 ?_ rfl JFC (by kernel_rfl) ?_
 · rw[show (pmN true 72).m=72 from rfl,JcM hl] at q; exact q
 · have _:=And.left (Ja.mp e); have e2:=And.right (Ja.mp e);have e3:=And.left (Ja.mp e2); have e4:=And.right (Ja.mp e2);have n3:t≠3:=fun h=>by subst h; cases e4
   have n6:t≠6:=fun h=>by subst h; cases e3
   show c.ν.iv t=if t=3 then 200 else if t=6 then 23 else c.ν.iv t;rw[if_neg n3,if_neg n6]
 · have _:=And.left (Ja.mp e); have e2:=And.right (Ja.mp e);have e3:=And.left (Ja.mp e2); have e4:=And.right (Ja.mp e2);have n6:t≠6:=fun h=>by subst h; cases e3
   show c.ν.pre t=if t=6 then pyD.go Jae else c.ν.pre t;rw[if_neg n6]
 · show c.ν.dg j=if j<10 then d0 j else c.ν.dg j;rw[if_neg (by omega)]
 · intro i hi
   cases List.mem_singleton.mp hi
   refine⟨_,_,Jux _ _ _ _ _,rfl,Jnm _,fun _ _ e=>(by cases e),fun _ _ e=>(by cases e),?_⟩;rintro a ha ⟨items,v1,v2,a1,a2,a3,a4⟩;have a3:v1=[]:=a3;subst a3;have g:=(Je.isPs (n:=8) (fun x hx=>Jn Jko x hx) a4).1;rw[Jmy] at g;have gl:v2.length=23:=(Jm a4).trans (by kernel_rfl);exact⟨items,v2,[],a1,by rw[a2,List.append_nil]; rfl,Jlw (by rw[gl]; rfl) (by omega) g,rfl⟩
 · refine JnX (fun j r e=>?_) fun i a b=>?_
   · show (if j<10 then d0 j else c.ν.dg j)<r;rw[if_pos (Jhz e)];exact JlD _ Jso j r e
   · show (if i<10 then d0 i else c.ν.dg i)≤1;rw[if_neg (by omega)]; exact hg i a b
structure Jot (ν1:Vl)(ns:List Nat)(j:Nat)(c:Jx)(st:St):Prop where
 st_:st=stN JaE
 pre6:c.ν.pre 6=(A0++Jbx (ns.take j)).map JbK
 iv6:c.ν.iv 6=23+2*(j:Int)
 iv:∀ t,t≠6→t≠10→c.ν.iv t=ν1.iv t
 dg:c.ν.dg=ν1.dg
def Vl.at10 (ν:Vl)(n:Nat):Vl:={ ν with iv:=fun t=>if t=10 then (n:Int) else ν.iv t }
def Jx.at10 (c:Jx)(h3:c.ν.iv 3=200)(n:Nat):Jx:=c.re (c.ν.at10 n) (fun t h1 h2=>by show (if t=10 then (n:Int) else c.ν.iv t)=_; rw[if_neg (by omega)]) rfl rfl (by
 obtain⟨k,k1,k2⟩:=c.askOk;exact⟨k,by omega,k1,k2⟩) c.firstOk
def Vl.more (ν:Vl)(l:List PyData):Vl:={ ν with pre:=fun t=>if t=6 then ν.pre 6++l else ν.pre t,iv:=fun t=>if t=6 then ν.iv 6+2 else ν.iv t }
def Jx.more (c:Jx)(h3:c.ν.iv 3=200)(l:List PyData):Jx:=c.re (c.ν.more l) (fun t h1 h2=>by show (if t=6 then c.ν.iv 6+2 else c.ν.iv t)=_; rw[if_neg (by exact Nat.ne_of_lt ‹_›)]) rfl rfl (by
 obtain⟨k,k1,k2,k3⟩:=c.askOk;refine⟨k,by omega,k1,?_,k3⟩;show (c.ν.pre 6++l)[k]?=_;rw[List.getElem?_append_left (List.getElem?_eq_some_iff.mp k2).1];exact k2) (by
 obtain⟨r,e⟩:=c.firstOk;exact⟨r++l,by show c.ν.pre 6++l=_; rw[e,List.append_assoc]⟩)
theorem Jm1 {ν1:Vl}(h0:c.ad₀.length≤72)(hl:ad.length=72)(h3:ν1.iv 3=200)(hg:∀ i,10≤i→i<13→ν1.dg i≤1){ns:List Nat}{items:Array Value}(hi:∀ (j:Nat) v,items[j]?=some v→∃ n t,ns[j]?=some n∧v=.int (n:Int) t)(j:Nat)(hn:j≤20) :
  Jk1 c F 300 (.name 127) (Jd q12) f [] ad (Jot ν1 ns) (fun j v=>items[j]?=some v) j:=by
 rintro c1 st1 h1 S1 R1 ⟨rfl,i2,i3,i4,i5⟩ v hv;obtain⟨n,tk,hn1,rfl⟩:=hi j v hv;have h31:c1.ν.iv 3=200:=by rw[i4 3 (by decide) (by decide),h3]
 have dm1:∀ j l,Js Jco j=some l→c1.ν.dg j∈l:=R1.dom;have R2:Jk (c1.at10 h31 n) ad [f] (stN JaE) h1:=by
  have q:=JlS (c:=c1) (c':=c1.at10 h31 n) ⟨rfl,rfl,rfl,rfl,rfl⟩ (p:=pmN false 72) ⟨fun t e=>?_,fun _ _=>rfl,fun _ _=>rfl,fun _=>⟨rfl,fun _ _=>rfl⟩⟩ R1 (st':=stN JaE) (JNg _ _) (JuG _) rfl (Nat.le_refl _) (by rw[S1.ad₀]; exact h0) (fun i hi=>by cases hi) rfl (fun _ _ e=>e) (by kernel_rfl) dm1
  · rw[show (pmN false 72).m=72 from rfl,JcM hl] at q; exact q
  · have e1:=And.left (Ja.mp e); have _:=And.right (Ja.mp e);have n10:t≠10:=fun h=>by subst h; cases e1
    show c1.ν.iv t=if t=10 then (n:Int) else c1.ν.iv t;rw[if_neg n10]
 have S2:JE c1 (c1.at10 h31 n):=⟨rfl,rfl,rfl,rfl,rfl⟩;have i10:(c1.at10 h31 n).ν.iv 10=(n:Int):=rfl;have j2:(c1.at10 h31 n).ν.pre 6=c1.ν.pre 6:=rfl;have j3:(c1.at10 h31 n).ν.iv 6=c1.ν.iv 6:=rfl;have j5:(c1.at10 h31 n).ν.dg=c1.ν.dg:=rfl;have j4:∀ t,t≠10→(c1.at10 h31 n).ν.iv t=c1.ν.iv t:=fun t ht=>by show (if t=10 then (n:Int) else c1.ν.iv t)=_; rw[if_neg ht]
 have h32:(c1.at10 h31 n).ν.iv 3=200:=(j4 3 (by decide)).trans h31;generalize c1.at10 h31 n=c2 at R2 S2 i10 j2 j3 j4 j5 h32;refine⟨c2,_,.int e1,fun st=>st=Jpu,S1.trans S2,R2,⟨tk,by rw[(Jna i10).1]⟩,?_,?_⟩
 · rw[JEu]; exact Jb4.mpr ⟨rfl,rfl⟩
 rintro ad3 st3 h3' R3 P3 rfl;refine⟨c2.more h32 [JbK (dgN JW n),JbK (dgN JW (n2 n))],stN JaE,(S1.trans S2).trans ⟨rfl,rfl,rfl,rfl,rfl⟩,?_,?_⟩
 · have q:=JlS (c:=c2) (c':=c2.more h32 [JbK (dgN JW n),JbK (dgN JW (n2 n))]) ⟨rfl,rfl,rfl,rfl,rfl⟩ (p:=pmN true 72) ⟨fun t e=>?_,fun t e=>?_,fun _ _=>rfl,fun _=>⟨rfl,fun _ _=>rfl⟩⟩ R3 (st':=stN JaE) JFF (JuG _) rfl (by decide) (by rw[(S1.trans S2).ad₀]; exact h0) ?_ rfl JCM (by kernel_rfl) ?_
   · rw[show (pmN true 72).m=72 from rfl,Jjv P3 hl] at q; exact q
   · have _:=And.left (Ja.mp e); have e2:=And.right (Ja.mp e);have e3:=And.left (Ja.mp e2); have e4:=And.right (Ja.mp e2);have n6:t≠6:=fun h=>by subst h; cases e3
     show c2.ν.iv t=if t=6 then c2.ν.iv 6+2 else c2.ν.iv t;rw[if_neg n6]
   · have _:=And.left (Ja.mp e); have e2:=And.right (Ja.mp e);have e3:=And.left (Ja.mp e2); have e4:=And.right (Ja.mp e2);have n6:t≠6:=fun h=>by subst h; cases e3
     show c2.ν.pre t=if t=6 then c2.ν.pre 6++[JbK (dgN JW n),JbK (dgN JW (n2 n))] else c2.ν.pre t;rw[if_neg n6]
   · intro i hi
     cases List.mem_singleton.mp hi
     refine⟨_,_,Jrr,rfl,Jnm _,fun _ _ e=>(by cases e),fun _ _ e=>(by cases e),?_⟩;rintro a ha ⟨items,v1,v2,a1,a2,a3,a4⟩;obtain⟨b1,b2,b3⟩:=Jrz a3;have g:=(Je.isPs (n:=8) (fun x hx=>Jn JmM x hx) a4).1;rw[Jod i10] at g;have gl:v2.length=2:=(Jm a4).trans rfl;refine⟨items,v1++v2,[],a1,by rw[a2,List.append_nil],Jlw ?_ ?_ (Jq0 b3 g),rfl⟩
     · rw[List.length_append,gl];show ((v1.length+2:Nat):Int)=c2.ν.iv 6+2;omega
     · rw[List.length_append,gl]; omega
   · show ∀ j l,Js Jco j=some l→c2.ν.dg j∈l;rw[j5]; exact dm1
 · refine⟨rfl,?_,?_,fun t a b=>?_,?_⟩
   · show c2.ν.pre 6++_=_;rw[j2,i2,List.take_succ,hn1];show _=(A0++Jbx (ns.take j++[n])).map JbK;rw[Jjo,← List.append_assoc,List.map_append (l₂:=[_,_])]; rfl
   · show c2.ν.iv 6+2=_;rw[j3,i3]; omega
   · show (if t=6 then c2.ν.iv 6+2 else c2.ν.iv t)=_;rw[if_neg a,j4 t b,i4 t a b]
   · show c2.ν.dg=_;rw[j5,i5]
end
theorem Jhe {env:Env}(b:List Stmt):∀ a:List Stmt,execs (a++b) env=(execs a env >>= fun f=>match f with | .next=>execs b env | f=>pure f)
 | []=>rfl
 | x::a=>by
  rw[List.cons_append,execs_cons,execs_cons,bind_assoc,Jhe b a];congr 1
  funext f
  cases f <;> rfl
theorem Je9 {M:Model}{A:Around}{env:Env}{E:Value→Shared→Prop}{s:Shared}{a b:List Stmt}{Q:Flow→Shared→Prop}(h:wpAny M A (execs a env) (fun f s'=>match f with | .next=>wpAny M A (execs b env) Q E s' | f=>Q f s') E s):wpAny M A (execs (a++b) env) Q E s:=by
 rw[Jhe];refine wpAny_bind (wpAny_mono h (fun f s' h'=>?_) fun _ _ q=>q)
 cases f <;> first | exact h' | exact wpAny_pure h'
theorem JlF (i m:Nat):((JaP.drop (i+1)).take m).map (Jbz NT G 40 Jj)=(([q1,q2,q3,q4,q5,q6,q7,q8,q9,q10,q11,q12,q13,q14]:List QS).drop i).take m:=by
 rw[← JG4,List.map_take,List.map_drop,List.map_drop,List.drop_drop,Nat.add_comm 1 i]
theorem Jq9 {i:Nat}{x:Stmt}(h:sN i=some x):JaP.drop i=x::JaP.drop (i+1):=by
 rw[sN,JG] at h;obtain⟨h1,h2⟩:=List.getElem?_eq_some_iff.mp h;rw[List.drop_eq_getElem_cons h1,h2]
section
variable {c:Jx}{f:JH}{ad:List Addr}{env:Env}{A:Around}{s:Shared}
theorem JiK (i m n:Nat){qs:List QS}(hq:((JaP.drop (i+1)).take m).map (Jbz NT G 40 Jj)=qs){st st':St}(H:All c F JB n)(hE:JY env f)(hs:f.sc=Jj)(hA:Jz A n)(R:Jk c ad [f] st s.heap)
  (run:∀ k:Fl→St→Bool,(ev F C n).Ss qs st k=k .next st') {Q:Flow→Shared→Prop}
  (k:∀ ad' s',Jk c ad' [f] st' s'.heap→JN ad [f] s ad' s'→wpAny (model c.prog c.w) A (execs (JaP.drop (i+1+m)) env) Q (fun _ _=>False) s') :
  wpAny (model c.prog c.w) A (execs (JaP.drop (i+1)) env) Q (fun _ _=>False) s:=by
 have e:JaP.drop (i+1)=(JaP.drop (i+1)).take m++JaP.drop (i+1+m):=by
  rw[← List.drop_drop (i:=m) (j:=i+1),List.take_append_drop]
 rw[e];have hs':=H.Ss 40 Jj ((JaP.drop (i+1)).take m);rw[hq] at hs';refine Je9 (hs' hE hs hA R (k:=kN fun st2=>st2=st') (by rw[run]; exact Jb4.mpr ⟨rfl,rfl⟩) fun ad4 st4 s4 fl d4 R4 X4 i4 e4=>?_);obtain⟨e5,rfl⟩:=Jb4.mp e4;subst e5;have i4:fl=_:=i4;subst i4;exact k ad4 s4 R4 X4
theorem JeK {i:Nat}{x:Stmt}(h:sN i=some x){M:Model}{Q:Flow→Shared→Prop}(k:wpAny M A (exec x env) (fun f s'=>match f with | .next=>wpAny M A (execs (JaP.drop (i+1)) env) Q (fun _ _=>False) s' | f=>Q f s') (fun _ _=>False) s) :
  wpAny M A (execs (JaP.drop i) env) Q (fun _ _=>False) s:=by
 rw[Jq9 h]; exact wpAny_execs_cons k
theorem JyL (st:St)(k:Fl→St→Bool):(ev F C 300).Ss [q14] st k=k (.ret (.bool true)) st:=by kernel_rfl
noncomputable def kR (P:D→Prop):Fl→St→Bool:=fun fl st=>@decide (∃ d,fl=.ret d∧P d) (Classical.propDecidable _)
theorem Joa {P:D→Prop}{fl:Fl}{st:St}:kR P fl st=true↔∃ d,fl=.ret d∧P d:=by
 unfold kR; exact @decide_eq_true_iff _ (Classical.propDecidable _)
def Jdi (c:Jx)(f:JH)(ad:List Addr)(s s':Shared):Prop:=∃ c1 ad1 st1,JE c c1∧Jk c1 ad1 [f] st1 s'.heap∧JN ad [f] s ad1 s'
theorem JuI (H:∀ n,All c F JB n)(hE:JY env f)(hs:f.sc=Jj)(hA:Jz A 300){st:St}(R:Jk c ad [f] st s.heap){Q:Flow→Shared→Prop}(k:∀ s',Jdi c f ad s s'→Q (.ret (.bool true)) s') :
  wpAny (model c.prog c.w) A (execs (JaP.drop 14) env) Q (fun _ _=>False) s:=by
 have e:JaP.drop 14=(JaP.drop 14).take 1:=by kernel_rfl
 rw[e];have hs':=(H 300).Ss 40 Jj ((JaP.drop 14).take 1);rw[JlF 13 1] at hs';refine hs' hE hs hA R (k:=kR fun d=>d=.bool true) (by rw[show (([q1,q2,q3,q4,q5,q6,q7,q8,q9,q10,q11,q12,q13,q14]:List QS).drop 13).take 1=[q14] from rfl,JyL]; exact Joa.mpr ⟨_,rfl,rfl⟩) fun ad4 st4 s4 fl d4 R4 X4 i4 e4=>?_;obtain⟨d,rfl,rfl⟩:=Joa.mp e4;obtain⟨u,rfl,i4⟩:=i4;have i4:u=.bool true:=i4;subst i4;exact k s4 ⟨c,ad4,st4,.refl c,R4,X4⟩
theorem Jdi.step {c c1:Jx}{f:JH}{ad ad1:List Addr}{s s1 s2:Shared}{st1:St}(S:JE c c1)(R:Jk c1 ad1 [f] st1 s1.heap)(x:JN ad [f] s ad1 s1)(y:Jdi c1 f ad1 s1 s2):Jdi c f ad s s2:=by
 refine Jf fun n1G=>?_;obtain⟨c2,ad2,st2,S2,R2,X2⟩:=y;exact n1G ⟨c2,ad2,st2,S.trans S2,R2,x.trans R X2⟩
end
theorem Jrs {c:Jx}{K:Frag}{mg mb:Str→Option Value}(Gl:∀ c',JE c c'→JcH c' K JB mg mb)(H:∀ c',JE c c'→∀ n,All c' F JB n){f:JH}{ad:List Addr}(h0:c.ad₀.length≤71){env:Env}{A:Around}{s:Shared}(hE:JY env f)(hs:f.sc=Jj)(hA:Jz A 400)
  {dm:JP} (R:Jk c ad [f] (Jq (obX (.cdict gsC) (.cdict gsC)) JK dm) s.heap) (hl:ad.length=71) (hg:∀ i,10≤i→i<13→c.ν.dg i≤1) (bd:Jf1 c.ν 900)
  {L:Addr}{items:Array Value}{ns:List Nat} (hov:c.ν.ov 1=.ref L) (hL:s.heap.IsList L items) (nL:L ∉ ad) (nF:L≠f.L) (hsz:items.size=ns.length) (h20:ns.length≤20)
  (hi:∀ (j:Nat) v,items[j]?=some v→∃ n t,ns[j]?=some n∧v=.int (n:Int) t) {Q:Flow→Shared→Prop} (k:∀ s',Jdi c f ad s s'→Q (.ret (.bool true)) s') :
  wpAny (model c.prog c.w) A (execs (JaP.drop 10) env) Q (fun _ _=>False) s:=by
 have hA3:Jz A 300:=hA.le (by decide);refine JiK 9 2 400 (JlF 9 2) (H c (.refl c) 400) hE hs hA R (JC4 _ _ dm) fun ad1 s1 R1 X1=>?_;refine Jf fun n1G=>?_;have l1:ad1.length=72:=R1.len;have R2:=Jqo (by exact Nat.le_succ_of_le ‹_›) l1 hg R1;have S2:=c.in_same;have nL1:L ∉ ad1:=fun h=>by
  refine Jf fun n2G=>?_;rcases X1.newer L h with q | q
  · exact n2G (nL q)
  · obtain⟨o,ho,_⟩:=hL; rw[ho] at q; cases q
 have hL1:s1.heap.IsList L items:=by
  refine Jf fun n3G=>?_;obtain⟨o,ho,r⟩:=hL;exact n3G ⟨o,X1.keep _ _ ho nL (fun h=>nF (List.mem_singleton.mp h)),r⟩
 have j3:c.in.ν.iv 3=200:=rfl;have j6:c.in.ν.iv 6=23:=rfl;have jp:c.in.ν.pre 6=pyD.go Jae:=rfl;have jo:c.in.ν.ov 1=.ref L:=hov;have jg:∀ i,10≤i→i<13→c.in.ν.dg i≤1:=fun i a b=>by
  show (if i<10 then d0 i else c.ν.dg i)≤1;rw[if_neg (by omega)]; exact hg i a b
 have jd:∀ j,j<10→c.in.ν.dg j=d0 j:=fun j h=>by
  show (if j<10 then d0 j else c.ν.dg j)=_;rw[if_pos h]
 have jb:Jf1 c.in.ν 900:=bd;generalize c.in=c2 at R2 S2 j3 j6 jp jo jg jd jb;have h02:c2.ad₀.length≤71:=by rw[S2.ad₀]; exact h0
 obtain⟨t1,t2,t3⟩:=JBU;have hh:∀ c',JE c2 c'→HA c' F 300 Jj (.name 127) (Jgk (sN 12))∧HSs c' F 300 Jj (Jd q12) (Je8 (sN 12)):=fun c' S=>by
  have A2:=H c' (S2.trans S) 300;refine⟨?_,?_⟩
  · rw[← t1]; exact A2.A 40 Jj _
  · rw[← t2]; exact A2.Ss 40 Jj _
 have he:HE c2 F 300 Jj (JlW q12) (JbJ (sN 12)):=by rw[← JA0]; exact (H c2 S2 300).E 40 Jj _
 refine n1G ?_;clear n1G;refine JeK Juu ?_;rw[← S2.prog,← S2.w];refine JlU he t3 hh hE hs hA3 hA3 R2 (o:=1) (L:=L) (items:=items) (INV:=Jot c2.ν ns) (by rw[Jrv]; exact Ja1.mpr ⟨rfl,rfl⟩) jo hL1 nL1 (fun h=>nF (List.mem_singleton.mp h))
  (st0:=stN JaE) (fun h R=>R.lessLoc JK5) ⟨rfl,by rw[jp,Jo1]; simp[Jbx],by rw[j6]; simp,fun _ _ _=>rfl,rfl⟩ (fun j hj=>Jm1 (by exact Nat.le_succ_of_le ‹_›) l1 j3 jg hi j (by omega)) ?_
 rintro s3 ⟨⟨c3,st3,S3,R3,rfl,p6,i6,iv3,dg3⟩,X3⟩ hL3;show wpAny _ _ (execs (JaP.drop 13) env) _ _ s3;refine Jf fun n4G=>?_;let AL:List (List Nat):=A0++Jbx ns;have p6:c3.ν.pre 6=AL.map JbK:=by rw[p6,List.take_of_length_le (by omega)]
 have AN:AL.length=23+2*ns.length:=by
  show (A0++Jbx ns).length=_;rw[List.length_append,Jex,JfM]
 have hAL:∀ k,k<AL.length→OkA (AL.getD k []):=fun k hk=>by
  have:AL.getD k []=AL[k]'hk:=by rw[List.getD_eq_getElem?_getD,List.getElem?_eq_getElem hk]; rfl
  rw[this];refine Jf fun n5G=>?_;rcases List.mem_append.mp (List.getElem_mem hk) with h | h
  · exact n5G (JlD _ h)
  · exact n5G (Jl0 _ h)
 have a0:AL.getD 0 []=A0.getD 0 []:=by
  show (A0++Jbx ns).getD 0 []=_;rw[List.getD_eq_getElem?_getD,List.getD_eq_getElem?_getD,List.getElem?_append_left (by rw[Jex]; decide)]
 have b3:Jf1 c3.ν 900:=by
  refine Jf fun n6G=>?_;obtain⟨y1,y2,y3,y4⟩:=jb;exact n6G ⟨by rw[iv3 1 (by decide) (by decide)]; exact y1,by rw[iv3 2 (by decide) (by decide)]; exact y2,by rw[iv3 4 (by decide) (by decide)]; exact y3,by rw[iv3 5 (by decide) (by decide)]; exact y4⟩
 obtain⟨c4,S4,R4,q6,qi6,qd,q3,qf,qb⟩:=Jlj (tr:=Ja0) JoZ R3 JDE (show 72≤(stN JaE).n from Nat.le_refl _) (by rw[S3.ad₀]; omega) b3 (by decide) (kk:=0) (dg':=c3.ν.dg)
  (by rw[p6,JkZ (k:=0) (by exact Nat.succ_pos _),a0,Job (f:=fun j=>(A0.getD 0 []).getD j 0) (g:=c3.ν.dg) fun i hi=>by rw[dg3,jd i hi]; rfl])
  (fun j r e=>by rw[dg3,jd j (Jhz e)]; exact JlD _ Jso j r e) (fun _ _=>rfl) R3.dom (by decide)
 rw[List.take_of_length_le (by omega)] at R4;have Sx:=(S2.trans S3).trans S4;refine n4G ?_;clear n4G;refine JeK Jsl ?_;rw[show c2.prog=c4.prog from ((S3.trans S4).prog).symm,show c2.w=c4.w from ((S3.trans S4).w).symm];refine JmG (c:=c4) (Gl c4 Sx) (fun c' S=>H c' (Sx.trans S)) (by rw[Sx.ad₀]; omega) l1 (N:=AL.length) (by exact Nat.le_add_left _ _) (by omega) (pl:=AL.map JbK) (dgs:=fun k j=>(AL.getD k []).getD j 0) (fun k hk=>JkZ hk) (fun k hk=>hAL k hk)
  hE hs hA3 R4 (by rw[qi6,i6,hsz,AN]; rfl) ⟨rfl,q6.trans p6,?_,fun _=>(by rw[q3]),fun i a b=>by rw[qd,dg3]; exact jg i a b⟩ ?_
 · refine Jf fun n7G=>?_;obtain⟨y1,y2,y3,y4⟩:=qb;exact n7G ⟨by omega,by omega,by omega,by omega⟩
 rintro s5 ⟨⟨c5,st5,S5,R5,I5⟩,X5⟩;show wpAny _ _ (execs (JaP.drop 14) env) _ _ s5;rw[← S5.prog,← S5.w];refine JuI (H c5 (Sx.trans S5)) hE hs hA3 R5 fun s6 y=>k s6 ?_;exact Jdi.step (.refl c) R1 X1 (Jdi.step S2 R2 (.refl _ _ _) (Jdi.step S3 R3 X3 (Jdi.step S4 R4 (.refl _ _ _) (Jdi.step S5 R5 X5 y))))
abbrev asT (o:Option Stmt):Expr:=Jm6 o 1
abbrev asV (o:Option Stmt):Expr:=Jm6 o 0
abbrev asP (o:Option Stmt):Pos:=Jv3 o
abbrev ieT (e:Expr):Expr:=kid e 0
abbrev ieA (e:Expr):Expr:=kid e 1
abbrev ieB (e:Expr):Expr:=kid e 2
abbrev ieP (e:Expr):Pos:=e.pos
abbrev sbV (e:Expr):Expr:=kid e 0
abbrev sbI (e:Expr):Expr:=kid e 1
abbrev sbP (e:Expr):Pos:=e.pos
abbrev iT (o:Option Stmt):Expr:=Jm6 o 0
abbrev iB (o:Option Stmt):List Stmt:=Je8 o
abbrev iP (o:Option Stmt):Pos:=Jv3 o
abbrev cL (e:Expr):Expr:=kid e 0
abbrev cR (e:Expr):Expr:=kid e 1
abbrev cP (e:Expr):Pos:=e.pos
theorem JyO:sN 4=some (.Assign [.Name (nmX (asT (sN 4))) (nmP (asT (sN 4)))] (.IfExp (.Name (nmX (ieT (asV (sN 4)))) (nmP (ieT (asV (sN 4))))) (.Subscript (sbV (ieA (asV (sN 4)))) (sbI (ieA (asV (sN 4)))) (sbP (ieA (asV (sN 4))))) (ieB (asV (sN 4))) (ieP (asV (sN 4)))) (asP (sN 4))):=by kernel_rfl
theorem JKa:JdL NT G 40 Jj (.Name (nmX (asT (sN 4))) (nmP (asT (sN 4))))=.name 160∧Jt NT G 40 Jj (.Name (nmX (ieT (asV (sN 4)))) (nmP (ieT (asV (sN 4)))))=.loc 159∧Jt NT G 40 Jj (sbV (ieA (asV (sN 4))))=.loc 159 ∧
  Jt NT G 40 Jj (sbI (ieA (asV (sN 4))))=.const (I 0)∧Jt NT G 40 Jj (ieB (asV (sN 4)))=.const (I 0)∧Jft (sbI (ieA (asV (sN 4))))=true:=⟨by kernel_rfl,by kernel_rfl,by kernel_rfl,by kernel_rfl,by kernel_rfl,by kernel_rfl⟩
theorem Jse:sN 5=some (.If (.Compare (cL (iT (sN 5))) [.Eq] [cR (iT (sN 5))] (cP (iT (sN 5)))) (iB (sN 5)) [] (iP (sN 5))):=by kernel_rfl
theorem JtK:sN 6=some (.If (.Compare (cL (iT (sN 6))) [.Eq] [cR (iT (sN 6))] (cP (iT (sN 6)))) (iB (sN 6)) [] (iP (sN 6))):=by kernel_rfl
theorem Js2:sN 7=some (.If (.Compare (cL (iT (sN 7))) [.Eq] [cR (iT (sN 7))] (cP (iT (sN 7)))) (iB (sN 7)) [] (iP (sN 7))):=by kernel_rfl
noncomputable def Jhp:QS→QE | .ite (.cmp _ l _) _ _=>l | _=>.bad
theorem JEa:Jt NT G 40 Jj (cL (iT (sN 5)))=Jhp q5∧Jt NT G 40 Jj (cR (iT (sN 5)))=.const (I 4)∧(iB (sN 5)).map (Jbz NT G 40 Jj)=[Jeu q5]∧behindInMarks .Eq (cR (iT (sN 5)))=false:=⟨by kernel_rfl,by kernel_rfl,by kernel_rfl,by kernel_rfl⟩
theorem JAq:Jt NT G 40 Jj (cL (iT (sN 6)))=Jhp q6∧Jt NT G 40 Jj (cR (iT (sN 6)))=.const (I 4)∧(iB (sN 6)).map (Jbz NT G 40 Jj)=[Jeu q6]∧behindInMarks .Eq (cR (iT (sN 6)))=false:=⟨by kernel_rfl,by kernel_rfl,by kernel_rfl,by kernel_rfl⟩
theorem JEr:Jt NT G 40 Jj (cL (iT (sN 7)))=Jhp q7∧Jt NT G 40 Jj (cR (iT (sN 7)))=.const (I 4)∧(iB (sN 7)).map (Jbz NT G 40 Jj)=[Jeu q7]∧behindInMarks .Eq (cR (iT (sN 7)))=false:=⟨by kernel_rfl,by kernel_rfl,by kernel_rfl,by kernel_rfl⟩
noncomputable abbrev Jd1:Loc:=Jfc++[(137,.obj 30)]
theorem JpB (g:Jo)(dm:JP)(k:D→St→Bool):(ev F C 300).E (.loc 159) (Jq (obW g) Jd1 dm) k=k (.opq 1) (Jq (obW g) Jd1 dm):=by kernel_rfl
theorem JpI (st:St)(k:D→St→Bool):(ev F C 300).E (.const (I 0)) st k=k (I 0) st:=by kernel_rfl
theorem Jqu (st:St)(k:D→St→Bool):(ev F C 300).E (.const (I 4)) st k=k (I 4) st:=by kernel_rfl
noncomputable def te5:IE:=.op 4 (.var 9 0) (.lit 5)
noncomputable def te6:IE:=.op 4 (.op 3 (.var 9 0) (.lit 5)) (.lit 5)
noncomputable def te7:IE:=.op 4 (.op 3 (.var 9 0) (.lit 25)) (.lit 5)
theorem JCS (g:Jo)(dm:JP)(k:D→St→Bool):(ev F C 300).E (Jhp q5) (Jq (obW g) JcK dm) k=k (.int te5) (Jq (obW g) JcK dm):=by kernel_rfl
theorem JBr (g:Jo)(dm:JP)(k:D→St→Bool):(ev F C 300).E (Jhp q6) (Jq (obW g) JcK dm) k=k (.int te6) (Jq (obW g) JcK dm):=by kernel_rfl
theorem JBS (g:Jo)(dm:JP)(k:D→St→Bool):(ev F C 300).E (Jhp q7) (Jq (obW g) JcK dm) k=k (.int te7) (Jq (obW g) JcK dm):=by kernel_rfl
def pm9:Pm:=⟨fun t=>Jaz (Nat.beq t 9),fun _=>true,33,true⟩
abbrev gs0:Jo:=.dict 2 (JM true true true)
theorem JIp (dm dm':JP)(loc loc':Loc):chk pm9 [] (Jq (obW gs0) loc dm).objs (Jq (obW gs0) loc' dm').objs 33=true:=by kernel_rfl
theorem JIg (g:Jo)(loc:Loc)(dm:JP):JD (Jq (obW g) loc dm).objs 33:=JaT (by kernel_rfl)
theorem Jq6 (g:Jo)(dm:JP):(Jq (obW g) Jd1 dm).setLoc 160 (.int (.var 9 0))=Jq (obW g) JcK dm:=by kernel_rfl
def Vl.at9 (ν:Vl)(n:Nat):Vl:={ ν with iv:=fun t=>if t=9 then (n:Int) else ν.iv t }
def Jx.at9 (c:Jx)(h3:c.ν.iv 3≤9000)(n:Nat):Jx:=c.re (c.ν.at9 n) (fun t h1 h2=>by show (if t=9 then (n:Int) else c.ν.iv t)=_; rw[if_neg (by omega)]) rfl rfl (by
 obtain⟨k,k1,k2⟩:=c.askOk;exact⟨k,by omega,k1,k2⟩) c.firstOk
section
variable {c:Jx}{f:JH}{ad:List Addr}{env:Env}{A:Around}{s:Shared}
theorem Jrx {M:Model}{t:Expr}{pos:Pos}{ee:Expr}{Q:Flow→Shared→Prop}(hc:JdI ee=true)(hstar:JA t=true)(hsw:∀ env,swappedStores [t] ee env=pure none)(h:wpAny M A (eval ee env) (fun v s1=>wpAny M A (assign t env v) (fun _ s2=>Q .next s2) (fun _ _=>False) s1) (fun _ _=>False) s) :
  wpAny M A (exec (.Assign [t] ee pos) env) Q (fun _ _=>False) s:=by
 refine wpAny_Assign_stores (wpAny_mono h (fun v s1 h1=>?_) fun _ _ q=>q) (JdN hc _ _ _) (hsw env);have es:(assignEach [t] env).map (·.2)=[fun v=>assign t env v]:=by cases t <;> first | rfl | cases hstar
 rw[es];exact h1
theorem JN.toks {ad ad1:List Addr}{fs:List JH}{s0 s1 s2:Shared}(x:JN ad fs s0 ad1 s1)(h:s2.heap=s1.heap)(hg:s2.gens=s1.gens)(hd:s2.drawn=s1.drawn)(ho:s2.os=s1.os):JN ad fs s0 ad1 s2 :=
 ⟨x.pre,x.newer,fun b o e n1 n2=>by rw[h]; exact x.keep b o e n1 n2,by rw[h]; exact x.kept,hg.trans x.gens,hd.trans x.drawn,ho.trans x.os⟩
theorem Jk3 (H:All c F JB 300){i:Nat}{l r:Expr}{pC pI:Pos}{body:List Stmt}(h:sN i=some (.If (.Compare l [.Eq] [r] pC) body [] pI)){ql:QE}{qb:List QS}(t:Jt NT G 40 Jj l=ql∧Jt NT G 40 Jj r=.const (I 4)∧body.map (Jbz NT G 40 Jj)=qb∧behindInMarks .Eq r=false)
  {st st':St}{el:IE} (runL:∀ k:D→St→Bool,(ev F C 300).E ql st k=k (.int el) st) (runB:∀ k:Fl→St→Bool,(ev F C 300).Ss qb st k=k .next st') (hn:st'.n=st.n) (hE:JY env f) (hs:f.sc=Jj) (hA:Jz A 300) (R:Jk c ad [f] st s.heap) {Q:Flow→Shared→Prop}
  (k:∀ (b:Bool) s',Jk c ad [f] (if b then st' else st) s'.heap→JN ad [f] s ad s'→wpAny (model c.prog c.w) A (execs (JaP.drop (i+1)) env) Q (fun _ _=>False) s') :
  wpAny (model c.prog c.w) A (execs (JaP.drop i) env) Q (fun _ _=>False) s:=by
 refine Jf fun n1G=>?_;obtain⟨t1,t2,t3,t4⟩:=t;refine n1G ?_;clear n1G;refine JeK h (wpAny_If ?_);have hl:=H.E 40 Jj l;have hr:=H.E 40 Jj r;have hb:=H.Ss 40 Jj body;rw[t1] at hl; rw[t2] at hr; rw[t3] at hb;refine wpAny_isTrue_Compare1 (hl hE hs hA R (k:=kD fun d st'=>d=.int el∧st'=st) (by rw[runL]; exact Ja1.mpr ⟨rfl,rfl⟩) fun ad1 st1 s1 v1 d1 R1 x1 i1 e1=>?_) t4;refine Jf fun n2G=>?_;obtain⟨rfl,rfl⟩:=Ja1.mp e1;have:=Jcp R R1 x1.pre;subst this;refine n2G ?_;clear n2G;refine hr hE hs hA R1 (k:=kD fun d st'=>d=I 4∧st'=st1) (by rw[Jqu]; exact Ja1.mpr ⟨rfl,rfl⟩) fun ad2 st2 s2 v2 d2 R2 x2 i2 e2=>?_;refine Jf fun n3G=>?_;obtain⟨rfl,rfl⟩:=Ja1.mp e2;have:=Jcp R1 R2 x2.pre;subst this;obtain⟨tk1,rfl⟩:=i1;obtain⟨tk2,rfl⟩:=i2;refine n3G ?_;clear n3G;refine eq_int (wpAny_truthy_bool ?_);generalize (el.val c.ν==(IE.lit (Int.ofNat 4)).val c.ν)=b;refine Jf fun n4G=>?_;have x12:=x1.trans R1 x2
 cases b with
 | true =>
  refine n4G ?_;clear n4G;refine hb hE hs hA R2 (k:=kN fun st2=>st2=st') (by rw[runB]; exact Jb4.mpr ⟨rfl,rfl⟩) fun ad4 st4 s4 fl d4 R4 X4 i4 e4=>?_;refine Jf fun n5G=>?_;obtain⟨e5,rfl⟩:=Jb4.mp e4;subst e5;have i4:fl=_:=i4;subst i4;have:=JfR X4.pre (by rw[R4.len,R2.len,hn]);subst this;exact n5G (k true s4 R4 (x12.trans R2 X4))
 | false =>
  exact n4G (wpAny_execs_nil (k false s2 R2 x12))
theorem Jpa (H:∀ c',JE c c'→∀ n,All c' F JB n)(h0:c.ad₀.length≤33)(h3:c.ν.iv 3≤9000){dm:JP}(hE:JY env f)(hs:f.sc=Jj)(hA:Jz A 300)(R:Jk c ad [f] (Jq (obW gs0) Jd1 dm) s.heap)
  {L:Addr}{items:Array Value} (hov:c.ν.ov 1=.ref L) (hL:s.heap.IsList L items) (nL:L ∉ ad) (nF:L≠f.L) (h20:items.size≤20) (hi:∀ (j:Nat) v,items[j]?=some v→∃ (n:Nat) (t:Tok),v=.int (n:Int) t) {Q:Flow→Shared→Prop}
  (k:∀ n s',Jk (c.at9 h3 n) ad [f] (Jq (obW gs0) JcK dm) s'.heap→JN ad [f] s ad s'→wpAny (model c.prog c.w) A (execs (JaP.drop 5) env) Q (fun _ _=>False) s') :
  wpAny (model c.prog c.w) A (execs (JaP.drop 4) env) Q (fun _ _=>False) s:=by
 obtain⟨t1,t2,t3,t4,t5,t6⟩:=JKa;have Hc:=H c (.refl c) 300;have hNums:=Hc.E 40 Jj (.Name (nmX (ieT (asV (sN 4)))) (nmP (ieT (asV (sN 4)))));have hV:=Hc.E 40 Jj (sbV (ieA (asV (sN 4))));have hI:=Hc.E 40 Jj (sbI (ieA (asV (sN 4))));have hZ:=Hc.E 40 Jj (ieB (asV (sN 4)));rw[t2] at hNums; rw[t3] at hV; rw[t4] at hI; rw[t5] at hZ;have keepL:∀ {s':Shared},JN ad [f] s ad s'→s'.heap.IsList L items:=fun {s'} X=>by
  obtain⟨ob,h1,h2⟩:=hL;exact⟨ob,X.keep _ _ h1 nL (fun h=>nF (List.mem_singleton.mp h)),h2⟩
 have nums:∀ {s1:Shared}{e:Expr} (he:HE c F 300 Jj (.loc 159) e) (R1:Jk c ad [f] (Jq (obW gs0) Jd1 dm) s1.heap) (x1:JN ad [f] s ad s1) {P:Value→Shared→Prop},(∀ s2,Jk c ad [f] (Jq (obW gs0) Jd1 dm) s2.heap→JN ad [f] s ad s2→P (.ref L) s2)→wpAny (model c.prog c.w) A (eval e env) P (fun _ _=>False) s1:=by
  intro s1 e he R1 x1 P p;refine he hE hs hA R1 (k:=kD fun d st'=>d=.opq 1∧st'=Jq (obW gs0) Jd1 dm) (by rw[JpB]; exact Ja1.mpr ⟨rfl,rfl⟩) fun ad1 st1 s2 v1 d1 R2 x2 i1 e1=>?_;obtain⟨rfl,rfl⟩:=Ja1.mp e1;have:=Jcp R1 R2 x2.pre;subst this;have i1:v1=c.ν.ov 1:=i1;rw[hov] at i1;subst i1;exact p s2 R2 (x1.trans R1 x2)
 have zero:∀ {s1:Shared}{e:Expr} (he:HE c F 300 Jj (.const (I 0)) e) (R1:Jk c ad [f] (Jq (obW gs0) Jd1 dm) s1.heap) (x1:JN ad [f] s ad s1) {P:Value→Shared→Prop},(∀ t s2,Jk c ad [f] (Jq (obW gs0) Jd1 dm) s2.heap→JN ad [f] s ad s2→P (.int ((0:Nat):Int) t) s2)→wpAny (model c.prog c.w) A (eval e env) P (fun _ _=>False) s1:=by
  intro s1 e he R1 x1 P p;refine he hE hs hA R1 (k:=kD fun d st'=>d=I 0∧st'=Jq (obW gs0) Jd1 dm) (by rw[JpI]; exact Ja1.mpr ⟨rfl,rfl⟩) fun ad1 st1 s2 v1 d1 R2 x2 i1 e1=>?_;obtain⟨rfl,rfl⟩:=Ja1.mp e1;have:=Jcp R1 R2 x2.pre;subst this;obtain⟨tk,rfl⟩:=i1;exact p tk s2 R2 (x1.trans R1 x2)
 refine JeK JyO ?_;have main:∀ (P:Value→Shared→Prop),(∀ (n:Nat) (t:Tok) s2,Jk c ad [f] (Jq (obW gs0) Jd1 dm) s2.heap→JN ad [f] s ad s2→P (.int (n:Int) t) s2)→wpAny (model c.prog c.w) A (eval (.IfExp (.Name (nmX (ieT (asV (sN 4)))) (nmP (ieT (asV (sN 4))))) (.Subscript (sbV (ieA (asV (sN 4)))) (sbI (ieA (asV (sN 4)))) (sbP (ieA (asV (sN 4))))) (ieB (asV (sN 4))) (ieP (asV (sN 4)))) env) P (fun _ _=>False) s:=by
  intro P p;refine wpAny_IfExp (wpAny_isTrue_value (nums hNums R (.refl _ _ _) fun s2 R2 x2=>?_));refine wpAny_truthy_list (keepL x2) (by omega) ?_;have x2':=x2.toks (s2:={ s2 with toks:=s2.toks+1+1 }) rfl rfl rfl rfl;have R2':Jk c ad [f] (Jq (obW gs0) Jd1 dm) ({ s2 with toks:=s2.toks+1+1 }:Shared).heap:=R2;by_cases he:items=#[]
  · have hb:items.isEmpty=true:=by rw[he]; rfl
    rw[hb];exact zero hZ R2' x2' fun t s3 R3 x3=>p 0 t s3 R3 x3
  · have hpos:0<items.size:=Nat.pos_of_ne_zero fun h=>he (Array.eq_empty_of_size_eq_zero h);have hb:items.isEmpty=false:=by
     cases q:items.isEmpty with
     | false=>rfl
     | true=>exact absurd (Array.isEmpty_iff.mp q) he
    rw[hb];show wpAny _ _ (eval (.Subscript _ _ _) env) _ _ _;rw[arm_eval_Subscript];refine wpAny_bind (nums hV R2' x2' fun s3 R3 x3=>?_);refine wpAny_bind (wpAny_holding (zero hI R3 x3 fun t s4 R4 x4=>?_));refine wpAny_bind (wpAny_standAt ?_);obtain⟨n,tk,hv⟩:=hi 0 _ (Array.getElem?_eq_getElem hpos);refine tail_any (ops:=[.ref L,.int ((0:Nat):Int) t]) (keepL x4).typeIs slot_list_getitem.lookup ?_ (Jb0 t6 _ _);refine wpAny_getItem_list (keepL x4) (by decide) (by decide) (Array.getElem?_eq_getElem hpos) ?_;rw[hv];exact p n tk s4 R4 x4
 refine Jrx rfl rfl (fun env=>Jd2 (fun _ _ _ h=>by cases h) (fun _ _ h=>by cases h) env) (main _ fun n t s2 R2 x2=>?_);have S9:JE c (c.at9 h3 n):=⟨rfl,rfl,rfl,rfl,rfl⟩;have R9:Jk (c.at9 h3 n) ad [f] (Jq (obW gs0) Jd1 dm) s2.heap:=by
  have q:=JlS (c:=c) (c':=c.at9 h3 n) S9 (p:=pm9) ⟨fun t e=>?_,fun _ _=>rfl,fun _ _=>rfl,fun _=>⟨rfl,fun _ _=>rfl⟩⟩ R2 (st':=Jq (obW gs0) Jd1 dm) (JIp _ _ _ _) (JIg _ _ _) rfl (Nat.le_refl _) h0 (fun i hi=>by cases hi) rfl (fun _ _ e=>e) (by kernel_rfl) R2.dom
  · rw[show pm9.m=33 from rfl,JcM (show ad.length=33 from R2.len)] at q; exact q
  · have n9:t≠9:=fun h=>by subst h; cases e
    show c.ν.iv t=if t=9 then (n:Int) else c.ν.iv t;rw[if_neg n9]
 have hT:=(H _ S9 300).A 40 Jj (.Name (nmX (asT (sN 4))) (nmP (asT (sN 4))));rw[t1] at hT;rw[← S9.prog,← S9.w];refine hT hE hs hA R9 (d:=.int (.var 9 0)) ⟨t,?_⟩ (k:=fun st=>kN (fun st'=>st'=Jq (obW gs0) JcK dm) .next st) ?_ fun ad3 st3 s3 R3 x3 e3=>?_
 · show Value.int (n:Int) t=.int ((if (9:Nat)=9 then (n:Int) else c.ν.iv 9)+0) t;rw[if_pos rfl,Int.add_zero]
 · rw[Jcq,Jq6]; exact Jb4.mpr ⟨rfl,rfl⟩
 · obtain⟨_,rfl⟩:=Jb4.mp e3;have:=JfR x3.pre (by rw[R3.len,R9.len]; rfl);subst this;exact k n s3 R3 (x2.trans R9 x3)
end
theorem JvU (b:Bool)(l r:List (D×D))(loc:Loc)(dm:JP):(if b then Jq (obW (.dict 2 l)) loc dm else Jq (obW (.dict 2 r)) loc dm)=Jq (obW (.dict 2 (if b then l else r))) loc dm:=by cases b <;> rfl
theorem Jrq {c:Jx}{K:Frag}{mg mb:Str→Option Value}(Gl:∀ c',JE c c'→JcH c' K JB mg mb)(H:∀ c',JE c c'→∀ n,All c' F JB n){f:JH}{ad:List Addr}(h0:c.ad₀.length≤33){env:Env}{A:Around}{s:Shared}(hE:JY env f)(hs:f.sc=Jj)(hA:Jz A 400)
  (R:Jk c ad [f] (Jq ob0 Jfc []) s.heap) (h3:c.ν.iv 3≤9000) (z:∀ j,j<10→c.ν.dg j=0) (bd:Jf1 c.ν 900)
  {L:Addr}{items:Array Value}{ns:List Nat} (hov:c.ν.ov 1=.ref L) (hL:s.heap.IsList L items) (nL:L ∉ ad) (nF:L≠f.L) (hsz:items.size=ns.length) (h20:ns.length≤20)
  (hi:∀ (j:Nat) v,items[j]?=some v→∃ n t,ns[j]?=some n∧v=.int (n:Int) t) {Q:Flow→Shared→Prop} (k:∀ s',Jdi c f ad s s'→Q (.ret (.bool true)) s') :
  wpAny (model c.prog c.w) A (execs (JaP.drop 1) env) Q (fun _ _=>False) s:=by
 have hA3:Jz A 300:=hA.le (by decide);have keepL:∀ {ad':List Addr}{s':Shared},JN ad [f] s ad' s'→s'.heap.IsList L items∧L ∉ ad':=fun {ad' s'} X=>by
  obtain⟨ob,h1,h2⟩:=hL;refine⟨⟨ob,X.keep _ _ h1 nL (fun h=>nF (List.mem_singleton.mp h)),h2⟩,fun h=>?_⟩;rcases X.newer L h with q | q
  · exact nL q
  · rw[h1] at q; cases q
 refine JiK 0 3 400 (JlF 0 3) (H c (.refl c) 400) hE hs hA R (Jx0 []) fun ad1 s1 R1 X1=>?_;refine Jpa H h0 h3 hE hs hA3 R1 hov (keepL X1).1 (keepL X1).2 nF (by omega) (fun j v hv=>?_) fun n s2 R2 X2=>?_
 · obtain⟨n,t,_,e⟩:=hi j v hv;exact⟨n,t,e⟩
 have S9:JE c (c.at9 h3 n):=⟨rfl,rfl,rfl,rfl,rfl⟩;have y1:∀ t,t≠9→(c.at9 h3 n).ν.iv t=c.ν.iv t:=fun t ht=>by
  show (if t=9 then (n:Int) else c.ν.iv t)=_;rw[if_neg ht]
 have y2:(c.at9 h3 n).ν.ov=c.ν.ov:=rfl;have y3:(c.at9 h3 n).ν.dg=c.ν.dg:=rfl;generalize c.at9 h3 n=c2 at R2 S9 y1 y2 y3;have X12:=X1.trans R1 X2;rw[← S9.prog,← S9.w];have H2:∀ n,All c2 F JB n:=H c2 S9;refine Jk3 (H2 300) Jse JEa (JCS _ _) (JM6 _) rfl hE hs hA3 R2 fun b5 s3 R3 X3=>?_;rw[JvU] at R3;have e5:(if b5 then JM true false true else JM true true true)=JM true (!b5) true:=by cases b5 <;> rfl
 rw[e5] at R3;refine Jk3 (H2 300) JtK JAq (JBr _ _) (JKm (!b5) _) rfl hE hs hA3 R3 fun b6 s4 R4 X4=>?_;rw[JvU] at R4;have e6:(if b6 then JM true (!b5) false else JM true (!b5) true)=JM true (!b5) (!b6):=by cases b6 <;> rfl
 rw[e6] at R4;refine Jk3 (H2 300) Js2 JEr (JBS _ _) (JKv (!b5) (!b6) _) rfl hE hs hA3 R4 fun b7 s5 R5 X5=>?_;rw[JvU] at R5;have e7:(if b7 then JM false (!b5) (!b6) else JM true (!b5) (!b6))=JM (!b7) (!b5) (!b6):=by cases b7 <;> rfl
 rw[e7] at R5;refine JiK 7 1 400 (JlF 7 1) (H2 400) hE hs hA R5 (JMV _ []) fun ad6 s6 R6 X6=>?_;have X25:=(X3.trans R3 X4).trans R4 X5;have X26:=X25.trans R5 X6;have l6:ad6.length=71:=R6.len;have X16:=X12.trans R2 X26;refine JeK JFb ?_;refine Jl2 (fun c' S=>H c' (S9.trans S)) (by rw[S9.ad₀]; omega) l6 (by rw[y1 3 (by decide)]; exact h3) (fun j hj=>by rw[y3]; exact z j hj) hE hs hA3 R6 fun c' s7 S7 z1 z2 z3 z4 R7 X7=>?_;have S:=S9.trans S7;have X17:=X16.trans R6 X7;rw[← S7.prog,← S7.w];refine Jrs (fun c' S'=>Gl c' (S.trans S')) (fun c' S'=>H c' (S.trans S')) (by rw[S.ad₀]; omega) hE hs hA R7 l6 z4 ?_ (by rw[z3,y2]; exact hov) (keepL X17).1 (keepL X17).2 nF hsz h20 hi fun s8 y=>k s8 ?_
 · obtain⟨b1,b2,b3,b4⟩:=bd;exact⟨by rw[z1,y1 1 (by decide)]; exact b1,by rw[z1,y1 2 (by decide)]; exact b2,by rw[z1,y1 4 (by decide)]; exact b3,by rw[z1,y1 5 (by decide)]; exact b4⟩
 · exact Jdi.step (.refl c) R1 X1 (Jdi.step S9 R2 X2 (Jdi.step (.refl _) R5 X25 (Jdi.step (.refl _) R6 X6 (Jdi.step S7 R7 X7 y))))
abbrev lcE (e:Expr):Expr:=kid e 0
abbrev lcT (e:Expr):Expr:=kid e 1
abbrev lcI (e:Expr):Expr:=kid e 2
noncomputable def lcS:Expr→Scope | .ListComp _ _ c _=>c | _=>Jj
abbrev lcP (e:Expr):Pos:=e.pos
abbrev boL (e:Expr):Expr:=kid e 0
abbrev boR (e:Expr):Expr:=kid e 1
abbrev boP (e:Expr):Pos:=e.pos
noncomputable def coK:Expr→Nat | .Constant _ k _=>k | _=>0
abbrev coP (e:Expr):Pos:=e.pos
abbrev slU (e:Expr):Expr:=kid e 0
abbrev slP (e:Expr):Pos:=e.pos
noncomputable abbrev v0:Expr:=asV (sN 0)
abbrev y0:Str:=nmX (asT (sN 0))
abbrev x0:Str:=nmX (lcT v0)
abbrev sc0:Str:=nmX (sbV (lcI v0))
abbrev Jj0:Scope:=lcS v0
abbrev JDz:Expr:=.BinOp (.Name x0 (nmP (boL (lcE v0)))) .Mod (.Constant (.int 1658880) (coK (boR (lcE v0))) (coP (boR (lcE v0)))) (boP (lcE v0))
abbrev Jor:Expr:=.Subscript (.Name sc0 (nmP (sbV (lcI v0)))) (.Slice none (some (.Constant (.int 20) (coK (slU (sbI (lcI v0)))) (coP (slU (sbI (lcI v0)))))) none (slP (sbI (lcI v0)))) (sbP (lcI v0))
theorem JF4:sN 0=some (.Assign [.Name y0 (nmP (asT (sN 0)))] (.ListComp JDz [⟨.Name x0 (nmP (lcT v0)),Jor,[],0⟩] Jj0 (lcP v0)) (asP (sN 0))):=by kernel_rfl
def Jiy:List (Str×NameKind)→Bool
 | []=>true
 | (_,k)::r=>match k with | .local=>Jiy r | _=>false
theorem JbM:∀ {l:List (Str×NameKind)},Jiy l=true→∀ z∈l,z.2=.local
 | (_,k)::r,h,z,hz=>by
  cases k <;> first
   | (have h:false=true:=h; cases h)
   | (have h:Jiy r=true:=h
      rcases List.mem_cons.mp hz with e | e
      · rw[e]
      · exact JbM h z e)
theorem JsZ:Jiy Jj0.names=true∧Jj0.kind=.function∧Jj0.names.lookup x0=some .local∧Jj.names.lookup y0=some .local∧Jj.names.lookup sc0=some .local∧(nmP (asT (sN 0))).line=(lcP v0).line∧(Jj0.names.any fun (n,k)=>n==y0&&(k==.local||k==.cell))=false ∧
  (sc0==("__debug__":Str))=false∧(x0==("__debug__":Str))=false∧JcD Jor=true∧Js NT 159=some y0∧Js NT 158=some sc0:=⟨by kernel_rfl,by kernel_rfl,by kernel_rfl,by kernel_rfl,by kernel_rfl,by kernel_rfl,by kernel_rfl,by kernel_rfl,by kernel_rfl,by kernel_rfl,by kernel_rfl,by kernel_rfl⟩
set_option tactic.hygienic true in
theorem Jm9 {vs:List Value}{l:List Int}(h:IntsAre vs l):∀ v∈vs,∃ i t,v=.int i t:=by
 induction h with
 | nil=>intro v hv; cases hv
 | cons =>
  rename_i ih;intro v hv;rcases List.mem_cons.mp hv with e | e
  · exact⟨_,_,e⟩
  · exact ih v e
theorem JlO:∀ (ys:List Value),(∀ y∈ys,∃ (n:Nat) (t:Tok),y=.int (n:Int) t)→∃ ns:List Nat,ys.length=ns.length∧∀ (j:Nat) v,ys[j]?=some v→∃ n t,ns[j]?=some n∧v=.int (n:Int) t
 | [],_=>⟨[],rfl,fun j v e=>by cases e⟩
 | y::ys,h=>by
  obtain⟨n,t,e⟩:=h y (.head _);obtain⟨ns,h1,h2⟩:=JlO ys fun y hy=>h y (.tail _ hy);refine⟨n::ns,by simp[h1],fun j v ev=>?_⟩
  cases j with
  | zero=>obtain rfl:=Jp ev; exact⟨n,t,rfl,e⟩
  | succ j=>exact h2 j v ev
set_option tactic.hygienic true in
theorem Jkr {F:Value→Value→Prop}:∀ {vs ys:List Value},Paired F vs ys→vs.length=ys.length∧∀ y∈ys,∃ v,F v y:=by
 intro vs ys h
 induction h with
 | nil=>exact⟨rfl,fun y hy=>by cases hy⟩
 | cons =>
  rename_i hF _ ih;refine⟨by simp[ih.1],fun y hy=>?_⟩;rcases List.mem_cons.mp hy with e | e
  · subst e; exact⟨_,hF⟩
  · exact ih.2 y e
theorem JER {prog:Program}{w:World}{A:Around}{env:Env}{f:JH}{s:Shared}(hE:JY env f)(hs:f.sc=Jj)(hA:A.handled=none){m:Str→Option Value}(hm:s.heap.Ns f.L m){Sa:Addr}(hsc:m sc0=some (.ref Sa)){vals:List Value}{l:List Int}(hL:s.heap.IsList Sa vals.toArray)(hI:IntsAre vals l)(h63:vals.length≤63){Q:Flow→Shared→Prop}
  (k:∀ D h' tk ys,s.heap.get? D=none→h'.IsList D ys→(∃ ns:List Nat,ys.size=ns.length∧ns.length≤20∧∀ (j:Nat) v,ys[j]?=some v→∃ n t,ns[j]?=some n∧v=.int (n:Int) t)→h'.Ns f.L (fun z=>if z=y0 then some (.ref D) else m z) →
   (∀ b o,b≠f.L→s.heap.get? b=some o→h'.get? b=some o)→wpAny (model prog w) A (execs (JaP.drop 1) env) Q (fun _ _=>False) { s with heap:=h',toks:=tk }) :
  wpAny (model prog w) A (execs JaP env) Q (fun _ _=>False) s:=by
 obtain⟨c1,c2,c3,c4,c5,c6,c7,c8,c9,c10,_,_⟩:=JsZ;have kind:∀ x,env.kindOf x=Jj.names.lookup x:=fun x=>by unfold Env.kindOf; rw[hE.sc,hs]
 have hkind:env.scope.kind=.function:=by rw[hE.sc]; exact hE.kind
 have e0:JaP=JaP.drop 0:=rfl;rw[e0];refine JeK JF4 ?_;obtain⟨cl,hcl,_⟩:=Jgj (scope:=Jj0) (env:=env) fun n hn=>by
  have:=JbM c1 _ hn
  cases this
 have hsw:swapsWith (.ListComp JDz [⟨.Name x0 (nmP (lcT v0)),Jor,[],0⟩] Jj0 (lcP v0)) (some (.Name y0 (nmP (asT (sN 0))))) (asP (sN 0)).line env=pure true:=by
  unfold swapsWith;show pure (env.blockKind==.function&&env.kindOf y0==some .local&&(nmP (asT (sN 0))).line==(lcP v0).line&&!(Jj0.names.any fun (n,k)=>n==y0&&(k==.local||k==.cell)))=pure true;rw[c7,kind,c4,c6];have:env.blockKind=.function:=by unfold Env.blockKind; rw[hkind]; rfl
  rw[this];simp
 refine wpAny_Assign_ListComp_free (fun _=>true) (fun _ y=>∃ (n:Nat) (t:Tok),y=.int (n:Int) t) hsw hcl (fun z hz q=>by rw[JbM c1 z hz] at q; cases q) c2
  (fun z hz _=>Jdx (fun k' hk'=>JbM c1 _ hk') (by have:=JbM c1 z hz; rw[← this]; exact hz)) c3 ((kind _).trans c4) (by rw[hkind]; rfl) ?_ (fun x=>Jcf c10 env x)
 refine wpAny_Subscript_list_slice (wpAny_Name (wpAny_loadName_local hkind ((kind _).trans c5) (hE.L ▸ hm) hsc ?_) c8);rw[evalPart_none];refine wpAny_pure ?_;show wpAny _ _ (eval (.Constant (.int 20) (coK (slU (sbI (lcI v0)))) (coP (slU (sbI (lcI v0))))) env) _ _ _;refine wpAny_Constant_int ?_;have hsz:vals.toArray.size≤sizeLine:=by simp only[List.size_toArray]; exact Nat.le_trans h63 (by decide)
 refine⟨Sa,vals.toArray,none,some 20,rfl,hL,hsz,.none,.int 20 _,?_⟩;have hpk:slicePick vals.toArray none (some 20) none=(vals.take 20).toArray:=slicePick_upto' vals.toArray 20;rw[hpk];have k1:∀ b o,s.heap.get? b=some o→(s.heap.push { cls:=.type "slice",data:=.fields #[.none,.int 20 s.toks,.none] }).get? b=some o:=fun b o e=>Heap.get?_push_of_some _ e;generalize hH1:s.heap.push { cls:=.type "slice",data:=.fields #[.none,.int 20 s.toks,.none] }=H1 at k1;have z1:H1.objs.size=s.heap.objs.size+1:=by rw[← hH1,Heap.size_push]
 have k2:∀ b o,s.heap.get? b=some o→(H1.push { cls:=.type "list",data:=.seq (vals.take 20).toArray }).get? b=some o:=fun b o e=>Heap.get?_push_of_some _ (k1 b o e);have l2:(H1.push { cls:=.type "list",data:=.seq (vals.take 20).toArray }).IsList (s.heap.objs.size+1) (vals.take 20).toArray:=by
  rw[← z1];exact⟨_,Heap.get?_push_size _ rfl,rfl,_,rfl⟩
 generalize hH2:H1.push { cls:=.type "list",data:=.seq (vals.take 20).toArray }=H2 at k2 l2;have z2:H2.objs.size=s.heap.objs.size+2:=by rw[← hH2,Heap.size_push,z1]
 have up:∀ b o,s.heap.get? b=some o→b≠H2.objs.size∧(H2.push { cls:=.type "list_iterator",data:=.fields #[.ref (s.heap.objs.size+1),.int 0 0] }).get? b=some o:=fun b o e=>⟨Nat.ne_of_lt (Nat.lt_of_lt_of_le (Heap.lt_size e) (by rw[z2]; exact Nat.le_add_right _ _)),Heap.get?_push_of_some _ (k2 b o e)⟩;refine wpAny_pyIter_list l2 ⟨H2.objs.size,[H2.objs.size,s.heap.objs.size+1],[H2.objs.size],(vals.take 20).toArray.size,_,_,m,rfl,Walks.list hA _ _ (by rw[z2]; exact Nat.ne_of_lt (Nat.lt_succ_self _)) (vals.take 20).toArray,?_,⟨⟨_,Heap.get?_push_size _ rfl,rfl,rfl⟩,l2.push _⟩,?_,?_,?_,⟨?_,?_⟩,?_⟩
 · simp only[List.size_toArray,List.length_take];exact Nat.le_trans (Nat.min_le_right _ _) (Nat.le_trans h63 (by decide))
 · intro b hb;show b<(H2.push _).objs.size;rw[Heap.size_push];rcases List.mem_cons.mp hb with rfl | hb
   · exact Nat.lt_succ_self _
   · cases List.mem_singleton.mp hb
     rw[z2]; exact Nat.lt_succ_of_lt (Nat.lt_succ_self _)
 · intro h;rw[hE.L] at h;obtain⟨o,es,ep,ho,_⟩:=hm;exact (up _ _ ho).1 (List.mem_singleton.mp h)
 · rw[hE.L];exact hm.at' fun o e=>(up _ _ e).2
 · intro C i v s₃ m₃ E' _ hP hn hmx hk _;exact wpAny_pure ⟨rfl,s₃.heap,s₃.toks,rfl,fun _ _ e=>e⟩
 · intro C i v s₃ m₃ E' _ hP _ hn hmx hk _;have hv:v∈vals.take 20:=by simpa using Array.mem_of_getElem? hP
   obtain⟨j,tk,rfl⟩:=Jm9 hI v (List.mem_of_mem_take hv);refine wpAny_BinOp (wpAny_Name (wpAny_loadName_local (by exact c2) (lookup_relabel_local c3) hn hmx ?_) c9);refine wpAny_Constant_int (mod_int (by decide) ?_);have hn:(((j.fmod 1658880).toNat:Nat):Int)=j.fmod 1658880:=Int.toNat_of_nonneg (Int.fmod_nonneg_of_pos _ (by decide));exact⟨⟨(j.fmod 1658880).toNat,_,congrArg (fun z=>Value.int z _) hn.symm⟩,s₃.heap,_,rfl,fun _ _ e=>e⟩
 · intro D h' tk ys vs' hnew hlD _ hlen hP hF hn' hk;obtain⟨pl,pm⟩:=Jkr hF;obtain⟨ns,n1,n2⟩:=JlO ys.toList fun y hy=>by
    obtain⟨_,h⟩:=pm y hy;exact h
   have hfil:(vs'.filter fun _=>true)=vs':=List.filter_eq_self.mpr fun _ _=>rfl;rw[hfil] at pl;have len20:ys.size≤20:=by
    rw[← Array.length_toList,← pl,hlen,List.size_toArray,List.length_take];exact Nat.min_le_left _ _
   rw[hE.L] at hn' hk;have hnew0:s.heap.get? D=none:=by
    cases e:s.heap.get? D with
    | none=>rfl
    | some o=>rw[(up _ _ e).2] at hnew; cases hnew
   exact k D h' tk ys hnew0 hlD ⟨ns,by rw[← n1,Array.length_toList],by rw[← n1,Array.length_toList]; exact len20,fun j v e=>n2 j v (by rw[Array.getElem?_toList]; exact e)⟩ hn'
    fun b o hb e=>hk b o hb (fun hm=>(up _ _ e).1 (List.mem_singleton.mp hm)) (up _ _ e).2
def JqG (p:D×D):Int:=match p.1 with | .int (.lit i)=>i | _=>0
def JD4 (e:DictEntry)(p:D×D):Bool:=match p.1 with
 | .int (.lit i)=>match p.2 with
  | .int (.lit j)=>Jh (match e.key with | .int i' _=>iEq i' i | _=>false) (Jh (match e.val with | .int j' _=>iEq j' j | _=>false) (iEq e.hash (hashInt i)))
  | _=>false
 | _=>false
theorem JCN {v:Value}{i:Int}(h:(match v with | .int i' _=>iEq i' i | _=>false)=true):∃ t,v=.int i t:=by
 cases v with
 | int j t=>exact⟨t,by rw[JbS.mp h]⟩
 | _=>exact ff h
theorem Jqk {e:DictEntry}{p:D×D}(h:JD4 e p=true):∃ i j t u,p=(.int (.lit i),.int (.lit j))∧e.key=.int i t∧e.val=.int j u∧e.hash=hashInt i:=by
 obtain⟨a,b⟩:=p
 cases a with
 | int a =>
  cases a with
  | lit i =>
   cases b with
   | int b =>
    cases b with
    | lit j =>
     obtain⟨h1,h2⟩:=Ja.mp h;obtain⟨h4,h3⟩:=Ja.mp h2;obtain⟨t,e1⟩:=JCN h1;obtain⟨u,e2⟩:=JCN h4;exact⟨i,j,t,u,rfl,e1,e2,JbS.mp h3⟩
    | _=>exact ff h
   | _=>exact ff h
  | _=>exact ff h
 | _=>exact ff h
def Jj4:List DictEntry→List (D×D)→Bool
 | [],[]=>true
 | e::es,p::l=>Jh (JD4 e p) (Jj4 es l)
 | _,_=>false
theorem Jjl {prog:Program}{w:World}{ν:Vl}{ad:List Addr}{h:Heap}:∀ {es:List DictEntry}{l:List (D×D)},Jj4 es l=true →
  ∃ kvs:List (Int×Value),Pairs (intKind prog w) es kvs∧JaW ν ad h l kvs∧kvs.map (·.1)=l.map JqG∧∀ e∈es,∃ k,(intKind prog w).is k e.key=true∧e.hash=(intKind prog w).hash k
 | [],[],_=>⟨[],.nil,rfl,rfl,fun e he=>by cases he⟩
 | e::es,p::l,q=>by
  obtain⟨q1,q2⟩:=Ja.mp q;obtain⟨i,j,t,u,rfl,e1,e2,e3⟩:=Jqk q1;obtain⟨kvs,a,b,c,d⟩:=Jjl q2;have ki:(intKind prog w).is i e.key=true:=by rw[e1]; show Value.isInt i (.int i t)=true; simp[Value.isInt]
  refine⟨(i,.int j u)::kvs,.cons ki e2 a,⟨.lit i,.int j u,kvs,rfl,rfl,⟨u,rfl⟩,b⟩,by rw[List.map_cons,List.map_cons,c]; rfl,fun x hx=>?_⟩;rcases List.mem_cons.mp hx with rfl | hx
  · exact⟨i,ki,e3⟩
  · exact d x hx
 | [],_::_,q=>by cases q
 | _::_,[],q=>by cases q
theorem Jjm {prog:Program}{w:World}{ν:Vl}{cA ad:List Addr}{h:Heap}{a:Addr}{o:Obj}(ho:h.get? a=some o)(ns:a≠sysModules)(hx:o.ExactDict){es:Array DictEntry}{ep:Nat}(hd:o.data=.dict es ep){l:List (D×D)}(hb:Jj4 es.toList l=true)(nd:(l.map JqG).Nodup) :
  JL prog w ν cA ad h a (.sdict l):=by
 refine Jf fun n1G=>?_;obtain⟨kvs,a1,a2,a3,a4⟩:=Jjl (prog:=prog) (w:=w) (ν:=ν) (ad:=ad) (h:=h) hb;exact n1G ⟨ns,kvs,⟨o,es,ep,ho,hx,hd,fun e he=>a4 e (Array.mem_toList_iff.mpr he),a1,by rw[a3]; exact nd⟩,a2⟩
noncomputable def Jo0 (o:Obj):Array DictEntry×Nat:=match o.data with | .dict es ep=>(es,ep) | _=>(#[],0)
abbrev JiN (o:Obj):Array DictEntry:=(Jo0 o).1
abbrev Jpf (o:Obj):Nat:=(Jo0 o).2
theorem Jks (P:Params):(H.K P).lookup 90=some (H.o78 P):=by kernel_rfl
theorem Jk0 (P:Params):(H.K P).lookup 91=some (H.o80 P):=by kernel_rfl
theorem x90 (P:Params):(H.o78 P).ExactDict:=⟨by kernel_rfl,by kernel_rfl,by kernel_rfl⟩
theorem x91 (P:Params):(H.o80 P).ExactDict:=⟨by kernel_rfl,by kernel_rfl,by kernel_rfl⟩
theorem d90 (P:Params):(H.o78 P).data=.dict (JiN (H.o78 P)) (Jpf (H.o78 P)):=by kernel_rfl
theorem d91 (P:Params):(H.o80 P).data=.dict (JiN (H.o80 P)) (Jpf (H.o80 P)):=by kernel_rfl
theorem e90 (P:Params):Jj4 (JiN (H.o78 P)).toList Jfw=true:=by kernel_rfl
theorem e91 (P:Params):Jj4 (JiN (H.o80 P)).toList Jfp=true:=by kernel_rfl
theorem JK6:(Jfw.map JqG).Nodup:=by decide +kernel
theorem JJd:(Jfp.map JqG).Nodup:=by decide +kernel
theorem Jo8 (P:Params):(H.K P).lookup 1322=some (H.n (H.t H.q154) (.func (H.fd 213 0 H.z640 H.z640 3 [] .none .none .none (H.s H.z602 2215) none (.ref 1321) .none 0))):=by kernel_rfl
theorem JnI (P:Params):Jlp (H.K P) 1321 H.z640=true:=by kernel_rfl
theorem Jv1:JsK (Jav prog JkV)=true:=by kernel_rfl
theorem JvP (P:Params):mgK (H.K P) H.z640=some (.ref 1322):=by kernel_rfl
theorem JjJ:(H.fArgs (Jav prog JkV)).args.map (·.arg)=[sc0]:=by kernel_rfl
theorem Jsf:H.z640=("law":Str):=by kernel_rfl
def vlL (Sa L:Addr):Vl:=⟨fun t=>if t=3 then 223 else 1,fun _=>"",fun _=>0,fun t=>if t=6 then pyD.go Jae++[.tuple ((List.range 10).map fun _=>.int ((0:Nat):Int))] else [],fun t=>if t=0 then .ref Sa else .ref L,fun _=>none⟩
theorem Jwz {j r:Nat}(e:Js JW j=some r):0<r:=by
 have:∀ i:Fin 10,∃ q,Js JW i.val=some (q+1):=by
  intro i;exact⟨((Js JW i.val).getD 0) - 1,by revert i; decide +kernel⟩
 obtain⟨q,h⟩:=this ⟨j,Jhz e⟩;simp only at h;obtain rfl:=sjt h e;exact Nat.succ_pos _
def JFL (pg:Program)(w:World)(h:Heap)(Sa L:Addr)(low:∃ o,h.get? sysModules=some o):Jx where
 prog:=pg
 w:=w
 ν:=vlL Sa L
 clsA:=Jrp
 h₀:=h
 ad₀:=[90,91]
 small:=fun t _=>by
  show 0≤(if t=3 then (223:Int) else 1)∧(if t=3 then (223:Int) else 1)≤100000;split <;> omega
 pos:=by show (1:Int)≤(if (2:Nat)=3 then 223 else 1); decide
 opqOk:=fun t i=>by
  show (if t=0 then Value.ref Sa else .ref L)≠.builtin i;split <;> exact fun e=>(by cases e)
 lowSys:=low
 preOk:=⟨by rfl,by show PyData.depthAll []≤50; decide⟩
 askOk:=by
  refine⟨23,rfl,?_,fun j r e=>Jwz e⟩;show (pyD.go Jae++[_])[23]?=_;have h:(pyD.go Jae).length=23:=by rw[Jo1,List.length_map,Jex]
  rw[List.getElem?_append_right (by decide),h]; rfl
 firstOk:=⟨_,rfl⟩
theorem JuR:sc0≠y0:=fun e=>by
 obtain⟨_,_,_,_,_,_,_,_,_,_,h1,h2⟩:=JsZ;rw[e] at h2;have:=JkP _ _ _ h1 h2
 cases this
theorem Jsb:JD (Jq ob0 Jfc []).objs 2:=JaT (by kernel_rfl)
theorem Jr2:(Jq ob0 Jfc []).objs.get 0=some (.sdict Jfw):=by kernel_rfl
theorem JrJ:(Jq ob0 Jfc []).objs.get 1=some (.sdict Jfp):=by kernel_rfl
theorem law_call {pg:Program}{w:World}{s₁:Shared}{mg mb:Str→Option Value}(hK:(H.K w.params).In s₁.heap)(ng:s₁.heap.Ns mainGlobals mg)(nb:s₁.heap.Ns builtinsNs mb)(hb:∀ x:Str,x≠"__name__"→mb x=bootBuiltins x)(lim:s₁.heap.NoLimit)
  {fa:Addr} (hfa:mg ("law":Str)=some (.ref fa)) {Sa:Addr}{vals:List Value}{l:List Int} (hL:s₁.heap.IsList Sa vals.toArray) (hI:IntsAre vals l) (h63:vals.length≤63) {Q:Value→Shared→Prop}{E:Value→Shared→Prop}
  (k:∀ s':Shared,(∀ b o,s₁.heap.get? b=some o→s'.heap.get? b=some o)→s'.gens=s₁.gens→s'.os=s₁.os→Q (.bool true) s'):wpAny (model pg w) callerA (call (.ref fa) [.ref Sa]) Q E s₁:=by
 refine Jf fun n1G=>?_;have hmg:∀ x,mg x=mgK (H.K w.params) x:=by
  refine Jf fun n2G=>?_;obtain⟨o,ho⟩:=JlB w.params;refine n2G ?_;clear n2G;intro x;rw[ng.eq_nsMap];unfold Heap.nsMap mgK;rw[hK _ _ ho,ho];refine Jf fun n3G=>?_;obtain⟨cls,d,dt,sl⟩:=o;refine n3G ?_;clear n3G
  cases dt <;> rfl
 have e1322:fa=1322:=by
  refine Jf fun n4G=>?_;rw[hmg,← Jsf,JvP] at hfa
  cases hfa
  refine n4G ?_;clear n4G;rfl
 subst e1322;have low:∃ o,s₁.heap.get? sysModules=some o:=⟨_,hK _ _ (Jvy w.params)⟩;have X:=JlH (c:=JFL pg w s₁.heap Sa Sa low) (K:=H.K w.params) hK (Jo8 w.params) rfl (JnI w.params) Jv1;obtain⟨o,fd,k1,k2,k3,k4,k5,k6,k7,k8,k9⟩:=X.obj;have lenA:(H.fArgs (Jav prog JkV)).args.length=1:=by rw[← List.length_map (·.arg),JjJ]; rfl
 obtain⟨c1,c2,c3,c4,c5,c6,c7,c8,c9,c10,c11,c12⟩:=JsZ;have k4:fd.scope=Jj:=k4;have k3:fd.body=.stmts JaP:=k3;have k9:=k9 [.ref Sa] (by rw[lenA]; rfl);rw[JjJ] at k9;refine n1G ?_;clear n1G;refine wpAny_call (codeAny_call_cells (by decide) (hK _ _ k1) k2 lim k8 k3 k9 k5 ?_ (fun s₂ hs₂=>?_) (by rw[k4]; exact X.co) (by rw[k4]; exact X.gen) (by rw[k4]; exact X.kind))
 · intro x hx;have:x=(sc0,.ref Sa):=List.mem_singleton.mp hx;rw[this,k4];exact .inl c5
 refine Jf fun n5G=>?_;let f:JH:=⟨s₁.heap.objs.size,cellsFrom (s₁.heap.objs.size+1) fd.scope.names [],fd.scope⟩;have hE:JY (callEnvC fd s₁.heap.objs.size 1322) f:=⟨rfl,rfl,rfl,k6,k7,by show fd.scope.kind=_; rw[k4]; exact X.kind⟩;obtain⟨⟨h1,tk,es⟩,hns,hk,hfr⟩:=hs₂.toInCall;have fresh:s₁.heap.get? f.L=none:=Jl _;have hsc:bindL (callEnvC fd s₁.heap.objs.size 1322).kindOf [(sc0,.ref Sa)] (fun _=>none) sc0=some (.ref Sa) :=
  JeJ (by show fd.scope.names.lookup sc0=_; rw[k4]; exact c5) (by simp) (List.mem_singleton.mpr rfl)
 have hA2:Jz (callerA.deeper (callEnvC fd s₁.heap.objs.size 1322)) 400:=⟨rfl,by show 1+claimMargin+1+400<recursionLimit; decide,by show 4+3+_+_<_; decide⟩;refine n5G ?_;clear n5G;refine wpAny_mono (JER (f:=f) hE k4 rfl hns hsc (m:=_) (Sa:=Sa) (vals:=vals) (l:=l) ?_ hI h63 (Q:=fun fl s'=>Q (match fl with | .ret v=>v | _=>.none) s') ?_) (fun fl s' q=>q) (fun _ _ q=>q.elim)
 · refine Jf fun n6G=>?_;obtain⟨ob,q1,q2⟩:=hL;exact n6G ⟨ob,hk _ _ q1,q2⟩
 intro D h' tk' ys hD hlD ⟨ns,n1,n2,n3⟩ hns' keep;have up:∀ b o,s₁.heap.get? b=some o→h'.get? b=some o:=fun b o e=>keep b o (fun q=>by rw[q,fresh] at e; cases e) (hk b o e);let c:=JFL pg w s₁.heap Sa D low;have hKc:∀ c',JE c c'→(H.K w.params).In c'.h₀:=fun c' S=>by rw[S.h₀]; exact hK
 have St:∀ c',JE c c'→JcI c' (H.K w.params) JB:=fun c' S=>Jq8 (hKc c' S) (by rw[S.clsA]; exact JvQ w.params);have Gl:∀ c',JE c c'→JcH c' (H.K w.params) JB mg mb:=fun c' S=>JrA (hKc c' S) (by rw[S.ad₀]; rfl) (by rw[S.h₀]; exact ng) (by rw[S.h₀]; exact nb) hb (JlB w.params) (by rw[S.clsA]; exact Jrc w.params) (by rw[S.clsA]; exact Jqd w.params) (Jrb w.params);have Al:∀ c',JE c c'→∀ n,All c' F JB n:=fun c' S n=>JuP JkP (St c' S) (Gl c' S) ((Jpp w.params).tab (hKc c' S) (by rw[S.h₀]; exact lim)) n;have g90:=up _ _ (hK _ _ (Jks w.params));have g91:=up _ _ (hK _ _ (Jk0 w.params));have ne90:(90:Addr)≠f.L:=fun q=>by have:=hK _ _ (Jks w.params); rw[q,fresh] at this; cases this
 have ne91:(91:Addr)≠f.L:=fun q=>by have:=hK _ _ (Jk0 w.params); rw[q,fresh] at this; cases this
 have nD:D ∉ ([90,91]:List Addr):=fun q=>by
  refine Jf fun n7G=>?_;have:∃ o,s₂.heap.get? D=some o:=by
   refine Jf fun n8G=>?_;rcases List.mem_cons.mp q with q | q
   · refine n8G ?_;clear n8G;rw[q]; exact⟨_,hk _ _ (hK _ _ (Jks w.params))⟩
   · refine n8G ?_;clear n8G;rw[List.mem_singleton.mp q]; exact⟨_,hk _ _ (hK _ _ (Jk0 w.params))⟩
  obtain⟨o,ho⟩:=this;rw[hD] at ho; cases ho
 have nF:D≠f.L:=fun q=>by
  refine Jf fun n9G=>?_;obtain⟨o,es,ep,ho,_⟩:=hns;rw[q] at hD;have ho:s₂.heap.get? f.L=some o:=ho;rw[hD] at ho; cases ho
 have R:Jk c [90,91] [f] (Jq ob0 Jfc []) h':=by
  refine⟨Jsb,rfl,fun i o e=>?_,fun i kk d e=>?_,?_,⟨Jfc,[],rfl,⟨_,hns',fun x nm d q1 q2=>?_⟩,rfl⟩,fun g hg=>?_,up,fun j l e=>(by cases j <;> cases e),fun i a e=>e⟩
  · refine Jf fun n10G=>?_;have hi:i<2:=(Jsb.some_iff i).mp (by rw[e]; rfl);have:i=0∨i=1:=by omega
    rcases this with rfl | rfl
    · obtain rfl:=sjt Jr2 e;exact n10G ⟨90,rfl,Jjm g90 (by decide) (x90 _) (d90 _) (e90 _) JK6,.inl rfl⟩
    · obtain rfl:=sjt JrJ e;exact n10G ⟨91,rfl,Jjm g91 (by decide) (x91 _) (d91 _) (e91 _) JJd,.inl rfl⟩
  · refine Jf fun n11G=>?_;have hi:i<2:=(Jsb.some_iff i).mp (by rw[e]; rfl);have:i=0∨i=1:=by omega
    rcases this with rfl | rfl
    · rw[Jr2] at e; cases e
    · rw[JrJ] at e; cases e
  · show ([90,91,f.L]:List Addr).Nodup;simp only[List.nodup_cons,List.mem_cons,List.not_mem_nil,or_false,not_or,not_false_eq_true,and_true,List.nodup_nil];exact⟨⟨by decide,ne90⟩,ne91⟩
  · have hx:(x=158∧d=.opq 0)∨(x=159∧d=.opq 1):=by
      have m:(x,d)∈Jfc:=JaD q2;simp only[Jfc,List.mem_cons,List.not_mem_nil,or_false] at m;rcases m with m | m <;> cases m
      · exact .inl ⟨rfl,rfl⟩
      · exact .inr ⟨rfl,rfl⟩
    have hloc:Jj.names.lookup nm=some .local:=by
     refine Jf fun n12G=>?_;rcases hx with ⟨rfl,rfl⟩ | ⟨rfl,rfl⟩
     · obtain rfl:=sjt c12 q1;exact n12G (c5)
     · obtain rfl:=sjt c11 q1;exact n12G (c4)
    refine⟨fun _=>?_,fun q=>?_⟩
    · refine Jf fun n13G=>?_;rcases hx with ⟨rfl,rfl⟩ | ⟨rfl,rfl⟩
      · obtain rfl:=sjt c12 q1;exact n13G ⟨.ref Sa,by rw[if_neg JuR]; exact hsc,rfl⟩
      · obtain rfl:=sjt c11 q1;exact n13G ⟨.ref D,by rw[if_pos rfl],rfl⟩
    · have q:fd.scope.names.lookup nm=some .cell∨fd.scope.names.lookup nm=some .free:=q;rw[k4,hloc] at q;rcases q with q | q <;> cases q
  · refine Jf fun n14G=>?_
    cases List.mem_singleton.mp hg
    exact n14G (fresh)
 refine Jrq (c:=c) Gl Al (by show 2≤33; decide) hE k4 hA2 (s:={ s₂ with heap:=h',toks:=tk' }) R (by show (223:Int)≤9000; decide) (fun _ _=>rfl) ⟨by show (if (1:Nat)=3 then (223:Int) else 1)≤900; decide,by show (if (2:Nat)=3 then (223:Int) else 1)≤900; decide,by show (if (4:Nat)=3 then (223:Int) else 1)≤900; decide,by show (if (5:Nat)=3 then (223:Int) else 1)≤900; decide⟩ (L:=D) (items:=ys) (ns:=ns) rfl hlD nD nF n1 n2 n3 fun s' y=>?_;refine Jf fun n15G=>?_;obtain⟨c2,ad2,st2,S2,R2,X2⟩:=y;refine n15G ?_;clear n15G;refine k s' (fun b o e=>R2.base b o (by rw[S2.h₀]; exact e)) ?_ ?_
 · rw[X2.gens]; show s₂.gens=_; rw[es]
 · rw[X2.os]; show s₂.os=_; rw[es]
set_option tactic.hygienic true in
theorem Jph {vs:List Value}{l:List Int}(h:IntsAre vs l):vs.length=l.length:=by
 induction h with
 | nil=>rfl
 | cons=>rename_i ih; simp[ih]
theorem len63 {vs:List Value}{l:List Int}(h:IntsAre vs l){k:Int}(hk:k=63)(c:¬ k<(l.length:Int)):vs.length≤63:=by
 rw[Jph h]; omega
open PySem.Challenge
def Jtn:Pos:=match Jav prog JkV with | some (.FunctionDef _ _ _ _ _ _ _ _ _ p)=>p | _=>p00
def JeM:DefRec:=⟨"law",H.fArgs (Jav prog JkV),JaP,Jj,Jtn⟩
theorem JIQ:defOf H.q rw_xw0093_01.row.name=some (JeM,[]):=by kernel_rfl
theorem hdp:rw_xw0093_01.row.prog.theDef rw_xw0093_01.row.name=some (JeM.params,JeM.body,JeM.scope):=by kernel_rfl
theorem hkw:kwWritten? JeM.params.kwonlyargs JeM.params.kw_defaults=some []:=by kernel_rfl
theorem hwr:(!rw_xw0093_01.row.writes||rw_xw0093_01.row.records.isEmpty)=true:=by kernel_rfl
theorem JNl:chainsOk H.q=true:=by kernel_rfl
theorem JNf:opensWell rw_xw0093_01.row.prog=true:=by kernel_rfl
theorem JHV:(frees rw_xw0093_01.row.toRowW&&rw_xw0093_01.row.within.isEmpty)=true:=by kernel_rfl
theorem hok:(chainsOk H.q&&opensWell rw_xw0093_01.row.prog&&(frees rw_xw0093_01.row.toRowW&&rw_xw0093_01.row.within.isEmpty))=true:=by rw[JNl,JNf,JHV]; rfl
theorem JkL {l:List (Str×NameKind)}(h:(l.map (·.1)).Nodup):∀ x∈l,l.filter (fun y=>y.1==x.1)=[x]:=by
 induction l with
 | nil=>intro x hx; cases hx
 | cons y r ih =>
  rw[List.map_cons,List.nodup_cons] at h;intro x hx;rcases List.mem_cons.mp hx with e | e
  · subst e;rw[List.filter_cons_of_pos (by simp)];congr 1;rw[List.filter_eq_nil_iff];intro z hz q;exact h.1 (List.mem_map.mpr ⟨z,hz,by simpa using q⟩)
  · have ne:¬ ((y.1==x.1)=true):=fun q=>h.1 (List.mem_map.mpr ⟨x,e,by simpa using (beq_iff_eq.mp q).symm⟩);rw[List.filter_cons_of_neg (p:=fun y:Str×NameKind=>y.1==x.1) (a:=y) ne];exact ih h.2 x e
theorem JkD {sc:Scope}(h:(sc.names.map (·.1)).Nodup):TablesWhole.noTwice sc=true:=by
 unfold TablesWhole.noTwice;rw[List.all_eq_true];intro x hx;have:=JkL h x hx;obtain⟨n,k⟩:=x;have this:sc.names.filter (fun y=>y.1==n)=[(n,k)]:=this
 show (match sc.names.filter (·.1==n) with
  | [_]=>true
  | [(_,a),(_,b)]=>sc.kind==.class&&a != .free&&b==.free
  | _=>false)=true
 rw[this]
def Ji2 (x:Str):List Str→Bool
 | []=>false
 | y::r=>match sEq x y with | true=>true | false=>Ji2 x r
def Jll:List Str→Bool
 | []=>true
 | x::r=>match Ji2 x r with | true=>false | false=>Jll r
theorem JjP {x:Str}:∀ {l:List Str},Ji2 x l=false→x ∉ l
 | [],_,h=>nomatch h
 | y::r,e,h=>by
  rcases bm (show (match sEq x y with | true=>true | false=>Ji2 x r)=false from e) with ⟨_,e⟩ | ⟨q,e⟩
  · exact ff e.symm
  · rcases List.mem_cons.mp h with z | z
    · rw[JbB.mpr z] at q; exact ff q.symm
    · exact JjP e z
theorem Jj9:∀ {l:List Str},Jll l=true→l.Nodup
 | [],_=>.nil
 | x::r,h=>by
  rcases bm (show (match Ji2 x r with | true=>false | false=>Jll r)=true from h) with ⟨_,h⟩ | ⟨q,h⟩
  · exact ff h
  · exact List.nodup_cons.mpr ⟨JjP q,Jj9 h⟩
theorem Jl7 (p:Program)(h1:(p.main.scope.names.map (·.1)).Nodup)(ht:TablesWhole.wSs TablesWhole.gather p.main.scope ⟨p.main.scope,[],[],[],none⟩ p.main.scope p.main.body=[])
  (h2:TablesWhole.wSs TablesWhole.holds p.main.scope ⟨p.main.scope,[],[],[],none⟩ p.main.scope p.main.body=true) (h3:p.modules=[]) (h4:p.parses=[]) (h5:p.harvested=[]):p.tablesWhole=true:=by
 unfold Program.tablesWhole TablesWhole.wProgram TablesWhole.wModule;rw[h3,h4,h5,ht];have h6:=JkD h1;simp only[TablesWhole.Alg.all,TablesWhole.holds,List.map_nil,List.foldr_cons,List.foldr_nil,Bool.and_true,Bool.true_and] at h2 ⊢;rw[h6,h2]; rfl
theorem tb1:Jll (pw_xw0093_01.main.scope.names.map (·.1))=true:=by kernel_rfl
theorem tbg:TablesWhole.wSs TablesWhole.gather pw_xw0093_01.main.scope ⟨pw_xw0093_01.main.scope,[],[],[],none⟩ pw_xw0093_01.main.scope pw_xw0093_01.main.body=[]:=by kernel_rfl
theorem tbh:TablesWhole.wSs TablesWhole.holds pw_xw0093_01.main.scope ⟨pw_xw0093_01.main.scope,[],[],[],none⟩ pw_xw0093_01.main.scope pw_xw0093_01.main.body=true:=by kernel_rfl
theorem nm1:pw_xw0093_01.modules=[]:=by kernel_rfl
theorem nm2:pw_xw0093_01.parses=[]:=by kernel_rfl
theorem nm3:pw_xw0093_01.harvested=[]:=by kernel_rfl
theorem nm4:pw_xw0093_01.absent=[]:=by kernel_rfl
theorem nm5:pw_xw0093_01.given={ argv:=[],stdin:=[],environ:=some Program.claimEnviron,cwd:=none,tree:=none,leftOut:=[],nothingAt:=[] }:=by kernel_rfl
theorem JD8:pw_xw0093_01.tablesWhole=true:=Jl7 _ (Jj9 tb1) tbg tbh nm1 nm2 nm3
theorem Jnl:rw_xw0093_01.row.prog=pw_xw0093_01:=by kernel_rfl
theorem JzB:rw_xw0093_01.row.prog.bare:=by
 rw[Jnl];exact⟨nm1,nm2,nm4,nm3,nm5,JD8⟩
theorem JB5:rw_xw0093_01.row.toRowW.promised:=by w_witness2
theorem Jl8 (said:rw_xw0093_01.row.wellSaid=true):rw_xw0093_01.row.Holds:=by
 refine holds_open (q:=Mine.H.q) (loose:=Mine.H.loose) (Xt:=Mine.H.Xt) (XP:=XL Mine.H.q []) (Yf:=Hook.obs Mine.H.hook) (Ya:=Hook.val Mine.H.hook) (YP:=Hook.says Mine.H.hook) (N:=11000) Mine.H.left (Hook.of Mine.H.hook) (Hook.keeps Mine.H.hook) (fun s e=>xl_of s (Bool.and_eq_true_iff.mp e).1) XL.keeps JIQ hdp hkw (fun s e=>recFacts_of (Bool.and_eq_true_iff.mp e).2) hwr said hok JzB JB5 ?_;intro w s₀ s₁ mg mb G Y fa o pm cd doc dV kV ho hd hcd hD hmg hg args vals as hpre hlay hrd hwl hlo;clear ho hd hcd hD
 wrow_args hpre hlay hrd hwl hlo
 have T:=topRead_of G.T;have hI:=‹IntsAre _ _›;have hL:=‹Heap.IsList _ _ _›;refine law_call (kIn_of Y) T.1 T.2 T.4 T.3 hmg hL hI (len63 hI (by rfl) (by assumption)) fun s' k1 k2 k3=>?_;refine⟨.inl ⟨.bool true,.bool true,[],rfl,fun _=>rfl,.bool true,?_,fun _=>⟨List.nodup_nil,fun a ha=>by cases ha⟩⟩,.of_keep k1,k3,.of_eq (k2.trans hg)⟩
 first | wrow_post | rfl
open PySem.Challenge
theorem JzG:(sreFenced rw_xw0093_01.row.prog.main)=true:=by kernel_rfl
theorem JDx:(((moduleNames rw_xw0093_01.row.prog.main.body).isEmpty||lookedIntoSs (moduleNames rw_xw0093_01.row.prog.main.body) rw_xw0093_01.row.prog.main.body))=true:=by kernel_rfl
theorem JAK:(namesResolve rw_xw0093_01.row.prog)=true:=by kernel_rfl
theorem JDb:(rw_xw0093_01.row.prog.boundNames.all (fun n=>!worldNames.contains n))=true:=by kernel_rfl
theorem JF1:(noRoadLSs { strict:=!(importedModules rw_xw0093_01.row.prog.main.body).all cThrough.contains,foot:=none,bare:=(["vars","dir","locals"]:List Str).filter (readsOut rw_xw0093_01.row.prog rw_xw0093_01.row.prog.main.body) } rw_xw0093_01.row.prog.main.body)=true:=by kernel_rfl
theorem Jzu:(namesMeet rw_xw0093_01.row.prog rw_xw0093_01.row.prog.main.body fun _ n=>attrL n)=true:=by kernel_rfl
theorem Jzr:(rw_xw0093_01.row.prog.boundNames.contains rw_xw0093_01.row.name)=true:=by kernel_rfl
theorem JBi:(!startupNames.contains rw_xw0093_01.row.name)=true:=by kernel_rfl
theorem JyA:(rw_xw0093_01.footing.all footLine)=true:=by kernel_rfl
theorem Jw7:(noClassBlock rw_xw0093_01.prog rw_xw0093_01.footing)=true:=by kernel_rfl
theorem JxO:(noRoadLSs { strict:=true,foot:=some rw_xw0093_01.bound',writes:=rw_xw0093_01.writes,may:=rw_xw0093_01.may } rw_xw0093_01.footing)=true:=by kernel_rfl
theorem JwF:(defStands rw_xw0093_01.about rw_xw0093_01.above)=true:=by kernel_rfl
theorem JBE:(rw_xw0093_01.namesIt)=true:=by kernel_rfl
theorem JFi:((["type","isinstance","issubclass","getattr","hasattr"]:List Str).all (fun n=>rw_xw0093_01.about != [n]))=true:=by kernel_rfl
theorem JAU:(rw_xw0093_01.bound'.all (fun n=>!builtinNamed n||rw_xw0093_01.about==[n]||!rw_xw0093_01.reads n))=true:=by kernel_rfl
theorem Jwq:((!rw_xw0093_01.writes||(rw_xw0093_01.prog.main.body.flatMap importedNames).all fun n=>!rw_xw0093_01.reads n))=true:=by kernel_rfl
theorem Jw6:((rw_xw0093_01.prog.main.body.flatMap importedNames).all (fun n=>!rw_xw0093_01.reads n||(drawsOf n rw_xw0093_01.prog.main.body).all fun mn=>mn.2 != ("attrgetter":Str)&&mn.2 != ("methodcaller":Str)))=true:=by kernel_rfl
theorem JzH:(namesMeet rw_xw0093_01.prog rw_xw0093_01.footing (fun sc n=>(!(["type","isinstance","issubclass","getattr","hasattr"]:List Str).contains n||sc.names.lookup n==some .globalImplicit)&&(rw_xw0093_01.may != some n||sc.kind==.module||sc.names.lookup n==some .globalImplicit)))=true:=by kernel_rfl
theorem JES:(rw_xw0093_01.own.contains rw_xw0093_01.name)=true:=by kernel_rfl
theorem Jy7:(rw_xw0093_01.own.eraseDups.length==rw_xw0093_01.own.length)=true:=by kernel_rfl
theorem JzO:(rw_xw0093_01.own.all (fun n=>!builtinNamed n))=true:=by kernel_rfl
theorem JF9:(namesMeet rw_xw0093_01.prog rw_xw0093_01.above (fun _ n=>!rw_xw0093_01.own.contains n))=true:=by kernel_rfl
theorem JAO:(namesMeet rw_xw0093_01.prog rw_xw0093_01.footing fun sc n=>sc.kind==.module||sc.names.lookup n != some .globalExplicit)=true:=by kernel_rfl
theorem Jrj:looksOpen rw_xw0093_01.row.prog=true:=by
 unfold looksOpen;exact (look_both (look_both (look_both (look_both (look_both JzG JDx) JAK) JDb) JF1) Jzu)
theorem Jpo:OpenRow.partSaid rw_xw0093_01.row=true:=by
 unfold OpenRow.partSaid;exact (look_both (look_both (look_both (look_both (look_both (look_both (look_both (look_both (look_both (look_both (look_both (look_both (look_both Jrj (by kernel_rfl)) (by kernel_rfl)) (by kernel_rfl)) (by kernel_rfl)) (by kernel_rfl)) (by kernel_rfl)) (by kernel_rfl)) (by kernel_rfl)) (by kernel_rfl)) (by kernel_rfl)) (by kernel_rfl)) (by kernel_rfl)) (by kernel_rfl))
theorem Joo:OpenRow.wellSaid rw_xw0093_01.row=true:=by
 unfold OpenRow.wellSaid;exact (look_both (look_both Jpo Jzr) JBi)
theorem ws:OpenLaw.wellSaid rw_xw0093_01=true:=by
 unfold OpenLaw.wellSaid;exact (look_both (look_both (look_both (look_both (look_both (look_both (look_both (look_both (look_both (look_both (look_both (look_both (look_both (look_both (look_both (look_both (look_both (look_both Joo (by kernel_rfl)) JyA) Jw7) (by kernel_rfl)) (by kernel_rfl)) JxO) JwF) JBE) JFi) JAU) Jwq) Jw6) JzH) JES) Jy7) JzO) JF9) JAO)
theorem law_holds:OpenLaw.Holds rw_xw0093_01:=⟨ws,Jl8 Joo⟩
end
end Mine
open PySem PySem.W PyProof.Rows
theorem PySem.Challenge.cw_xw0093_01_holds : PySem.Challenge.rw_xw0093_01.Holds := by
  exact Mine.law_holds
